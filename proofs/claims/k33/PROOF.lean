import PyProof.Rows.All
import Wide.All
import OpenK.AllK
import Wide.FinOn
import HandS.ForMost
import HandS.Property
import HandS.IsInst
import HandS.Defaults
import HandS.DictComp
import HandS.Flow
import HandS.Conv
import KE.KDictKeyed
import KE.SortData
import HandS.Lambda
import HandS.Small
import HandS.Records
import HandS.Zip
import HandS.More
import KE.KDictCopyH
import HandS.Sort
import HandS.Wide
import HandS.WideMore
import HandS.Nested
import HandS.CallLocal
import HandS.SetFor
import HandS.Strs
import HandS.HeadHook4
import HandS.HeadNt
import HandS.Head2
import HandS.HeadWalk
import PySem.Challenge.RW_whytold_k33_whole_leaks_beside_odds
set_option Elab.async false
set_option autoImplicit false
set_option linter.all false
set_option maxRecDepth 100000
set_option maxHeartbeats 0
namespace Dc
open PySem PySem.Spec
open PyProof.Rows L2
/-- the code objects' tables that makers of functions ask -/
class TabsT where
  T : List (Addr × Str)
variable [TabsT]
abbrev NT (o : HO) : Prop := ∀ ps, o ≠ .tbl ps

/-- plain data, to any depth -/
inductive D where
  | non | bl (b : Bool) | int (i : Int) | str (x : Str) | rf (a : Addr)
  | tup (xs : List D) | lst (xs : List D)
  | dk (ks : List Key) (xs : List D) | dn (ks : List D) (xs : List D)
  | ins (C : Addr) (fs : List Str) (xs : List D)
  | ab (r : Hp → Addr → Prop)

/-- the written part, the world -/
structure KW where
  K : PySem.W.Frag
  w : World
mutual
/-- a key that may be a tuple of keys -/
def toNK : D → Option NestedKey
  | .non => some .none
  | .int i => some (.num i)
  | .str x => some (.text x)
  | .tup xs => (toNKs xs).map NestedKey.tup
  | _ => none
def toNKs : List D → Option (List NestedKey)
  | [] => some []
  | d :: ds => (toNK d).bind fun k => (toNKs ds).map fun ks => k :: ks
end
/-- a dict whose keys are tuples: the keys and where they lie, the values -/
def DnAt (w : World) (a : Addr) (kqs : List (NestedKey × Addr)) (vs : List V) (h : Heap) : Prop :=
  ∃ xs : List (NestedKey × Addr × Value), kqs = xs.map (fun x => (x.1, x.2.1)) ∧ Vals vs (xs.map fun x => x.2.2) ∧ xs.length ≤ sizeLine ∧ (a == sysModules) = false ∧ (xs.map (·.1)).Nodup ∧ ∃ o es ep, h.get? a = some o ∧ o.ExactDict ∧ o.data = .dict es ep ∧ es.toList = xs.map fun x => (⟨x.1.hash w, .ref x.2.1, x.2.2⟩ : DictEntry)
def DnO (w : World) (a : Addr) (kqs : List (NestedKey × Addr)) (vs : List V) : HO := .ext (DnAt w a kqs vs)
mutual
/-- v stands for d, by the objects of F -/
def Rep (K : KW) (F : Hp) : D → V → Prop
  | .non, v => v = .non
  | .bl b, v => v = .bl b
  | .int i, v => v = .int i
  | .str x, v => v = .str x
  | .rf a, v => v = .ref a
  | .tup xs, v => ∃ a vs, v = .ref a ∧ SqT K.K F a vs ∧ vs.length ≤ sizeLine ∧ Reps K F xs vs
  | .lst xs, v => ∃ a vs, v = .ref a ∧ SqL K.K F a vs ∧ vs.length ≤ sizeLine ∧ Reps K F xs vs
  | .dk ks xs, v => ∃ a vs, v = .ref a ∧ Rd F a (.dK (ks.zip vs)) ∧ ks.length = vs.length ∧ Reps K F xs vs
  | .dn ks xs, v => ∃ a kqs vs, v = .ref a ∧ F a = some (DnO K.w a kqs vs) ∧ RepKs K F ks kqs ∧ Reps K F xs vs
  | .ins C fs xs, v => ∃ a dx vs, v = .ref a ∧ F a = some (.ins C dx (fs.zip vs)) ∧ fs.length = vs.length ∧ Reps K F xs vs
  | .ab r, v => ∃ a, v = .ref a ∧ ∀ F', Same F F' → r F' a
def Reps (K : KW) (F : Hp) : List D → List V → Prop
  | [], vs => vs = []
  | d :: ds, vs => ∃ v r, vs = v :: r ∧ Rep K F d v ∧ Reps K F ds r
def RepKs (K : KW) (F : Hp) : List D → List (NestedKey × Addr) → Prop
  | [], ks => ks = []
  | d :: ds, ks => ∃ k q r, ks = (k, q) :: r ∧ toNK d = some k ∧ k.depth ≤ 8 ∧ Rep K F d (.ref q) ∧ RepKs K F ds r
end
section
variable {K : KW} {F F' H H' : Hp}
theorem sqT_mono {K : PySem.W.Frag} {a : Addr} {xs : List V} (e : Same F F') (h : SqT K F a xs) : SqT K F' a xs := by
  rcases h with (h | ⟨o, h⟩) | h
  · exact .inl (.inl (e _ _ h))
  · exact .inl (.inr ⟨o, e _ _ h⟩)
  · exact .inr h
theorem rd_mono {a : Addr} {o : HO} (e : Same F F') (h : Rd F a o) : Rd F' a o := by
  rcases h with h | ⟨ob, h⟩
  · exact .inl (e _ _ h)
  · exact .inr ⟨ob, e _ _ h⟩
mutual
theorem Rep.mono (e : Same F F') : ∀ {d : D} {v : V}, Rep K F d v → Rep K F' d v
  | .non, _, h => h
  | .bl _, _, h => h
  | .int _, _, h => h
  | .str _, _, h => h
  | .rf _, _, h => h
  | .tup xs, _, ⟨a, vs, e1, h, hl, r⟩ => ⟨a, vs, e1, sqT_mono e h, hl, Reps.mono e r⟩
  | .lst xs, _, ⟨a, vs, e1, h, hl, r⟩ => ⟨a, vs, e1, Same.seq e h, hl, Reps.mono e r⟩
  | .dk ks xs, _, ⟨a, vs, e1, h, hl, r⟩ => ⟨a, vs, e1, rd_mono e h, hl, Reps.mono e r⟩
  | .dn ks xs, _, ⟨a, kqs, vs, e1, h, hl, r⟩ => ⟨a, kqs, vs, e1, e _ _ h, RepKs.mono e hl, Reps.mono e r⟩
  | .ins C fs xs, _, ⟨a, dx, vs, e1, h, hl, r⟩ => ⟨a, dx, vs, e1, e _ _ h, hl, Reps.mono e r⟩
  | .ab _, _, ⟨a, e1, h⟩ => ⟨a, e1, fun F2 s => h F2 (e.trans s)⟩
theorem Reps.mono (e : Same F F') : ∀ {ds : List D} {vs : List V}, Reps K F ds vs → Reps K F' ds vs
  | [], _, h => h
  | d :: ds, _, ⟨v, r, e1, h1, h2⟩ => ⟨v, r, e1, Rep.mono e h1, Reps.mono e h2⟩
theorem RepKs.mono (e : Same F F') : ∀ {ds : List D} {vs : List (NestedKey × Addr)}, RepKs K F ds vs → RepKs K F' ds vs
  | [], _, h => h
  | d :: ds, _, ⟨k, q, r, e1, h0, h9, h1, h2⟩ => ⟨k, q, r, e1, h0, h9, Rep.mono e h1, RepKs.mono e h2⟩
end
theorem RepKs.length : ∀ {ds : List D} {vs : List (NestedKey × Addr)}, RepKs K F ds vs → ds.length = vs.length
  | [], _, h => by cases (show _ = [] from h); rfl
  | d :: ds, _, ⟨k, q, r, e1, _, _, h1, h2⟩ => by rw [e1, List.length_cons, List.length_cons, RepKs.length h2]
theorem Reps.length : ∀ {ds : List D} {vs : List V}, Reps K F ds vs → ds.length = vs.length
  | [], _, h => by cases (show _ = [] from h); rfl
  | d :: ds, _, ⟨v, r, e1, h1, h2⟩ => by rw [e1, List.length_cons, List.length_cons, Reps.length h2]
theorem Reps.get : ∀ {ds : List D} {vs : List V} {i : Nat} {d : D}, Reps K F ds vs → ds[i]? = some d → ∃ v, vs[i]? = some v ∧ Rep K F d v
  | [], _, _, _, _, e => by simp at e
  | d :: ds, _, 0, _, ⟨v, r, e1, h1, h2⟩, e => by
    subst e1; simp at e; subst e
    exact ⟨v, rfl, h1⟩
  | d :: ds, _, i + 1, _, ⟨v, r, e1, h1, h2⟩, e => by
    subst e1
    obtain ⟨u, a, b⟩ := Reps.get (i := i) h2 (by simpa using e)
    exact ⟨u, by simpa using a, b⟩
theorem Reps.getV : ∀ {ds : List D} {vs : List V} {i : Nat} {v : V}, Reps K F ds vs → vs[i]? = some v → ∃ d, ds[i]? = some d ∧ Rep K F d v
  | [], _, _, _, h, e => by rw [show _ = [] from h] at e; simp at e
  | d :: ds, _, 0, _, ⟨v, r, e1, h1, h2⟩, e => by
    subst e1; simp at e; subst e
    exact ⟨d, rfl, h1⟩
  | d :: ds, _, i + 1, _, ⟨v, r, e1, h1, h2⟩, e => by
    subst e1
    obtain ⟨u, a, b⟩ := Reps.getV (i := i) h2 (by simpa using e)
    exact ⟨u, by simpa using a, b⟩
theorem Reps.append : ∀ {ds es : List D} {vs us : List V}, Reps K F ds vs → Reps K F es us → Reps K F (ds ++ es) (vs ++ us)
  | [], _, _, _, h, g => by rw [show _ = [] from h]; exact g
  | d :: ds, _, _, _, ⟨v, r, e1, h1, h2⟩, g => ⟨v, r ++ _, by rw [e1]; rfl, h1, Reps.append h2 g⟩
theorem Reps.one {d : D} {v : V} (h : Rep K F d v) : Reps K F [d] [v] := ⟨v, [], rfl, h, rfl⟩
theorem Reps.cons {d : D} {v : V} {ds : List D} {vs : List V} (h : Rep K F d v) (g : Reps K F ds vs) : Reps K F (d :: ds) (v :: vs) := ⟨v, vs, rfl, h, g⟩
theorem Reps.nil : Reps K F [] [] := rfl
theorem Reps.set : ∀ {ds : List D} {vs : List V} (i : Nat) {d : D} {v : V}, Reps K F ds vs → Rep K F d v → Reps K F (ds.set i d) (vs.set i v)
  | [], _, _, _, _, h, _ => by rw [show _ = [] from h]; rfl
  | d :: ds, _, 0, _, _, ⟨v, r, e1, h1, h2⟩, g => by subst e1; exact ⟨_, r, rfl, g, h2⟩
  | d :: ds, _, i + 1, _, _, ⟨v, r, e1, h1, h2⟩, g => by subst e1; exact ⟨v, _, rfl, h1, Reps.set i h2 g⟩
theorem Reps.take : ∀ {ds : List D} {vs : List V} (n : Nat), Reps K F ds vs → Reps K F (ds.take n) (vs.take n)
  | _, _, 0, _ => rfl
  | [], _, n + 1, h => by rw [show _ = [] from h]; rfl
  | d :: ds, _, n + 1, ⟨v, r, e1, h1, h2⟩ => by subst e1; exact ⟨v, _, rfl, h1, Reps.take n h2⟩
theorem Reps.drop : ∀ {ds : List D} {vs : List V} (n : Nat), Reps K F ds vs → Reps K F (ds.drop n) (vs.drop n)
  | _, _, 0, h => h
  | [], _, n + 1, h => by rw [show _ = [] from h]; rfl
  | d :: ds, _, n + 1, ⟨v, r, e1, h1, h2⟩ => by subst e1; exact Reps.drop n h2
theorem Reps.dropLast : ∀ {ds : List D} {vs : List V}, Reps K F ds vs → Reps K F ds.dropLast vs.dropLast := fun {ds vs} h => by
  rw [List.dropLast_eq_take, List.dropLast_eq_take, h.length]
  exact h.take _
theorem Reps.eraseIdx : ∀ {ds : List D} {vs : List V} (n : Nat), Reps K F ds vs → Reps K F (ds.eraseIdx n) (vs.eraseIdx n)
  | [], _, n, h => by rw [show _ = [] from h]; rfl
  | d :: ds, _, 0, ⟨v, r, e1, h1, h2⟩ => by subst e1; exact h2
  | d :: ds, _, n + 1, ⟨v, r, e1, h1, h2⟩ => by subst e1; exact ⟨v, _, rfl, h1, Reps.eraseIdx n h2⟩
theorem Reps.map_of {α : Type} (f : α → D) (g : α → V) (h : ∀ x, Rep K F (f x) (g x)) : ∀ l : List α, Reps K F (l.map f) (l.map g)
  | [] => rfl
  | x :: l => ⟨g x, l.map g, rfl, h x, Reps.map_of f g h l⟩
theorem Reps.eq_of {α : Type} (f : α → D) (g : α → V) (h : ∀ x v, Rep K F (f x) v → v = g x) : ∀ {l : List α} {vs : List V}, Reps K F (l.map f) vs → vs = l.map g
  | [], _, r => r
  | x :: l, _, ⟨v, r, e1, h1, h2⟩ => by rw [e1, h x v h1, Reps.eq_of f g h h2]; rfl
/-- a list of ints, of texts -/
theorem reps_ints {ns : List Int} {vs : List V} (h : Reps K F (ns.map D.int) vs) : vs = ns.map V.int := Reps.eq_of D.int V.int (fun _ _ q => q) h
theorem reps_of_ints (ns : List Int) : Reps K F (ns.map D.int) (ns.map V.int) := Reps.map_of D.int V.int (fun _ => rfl) ns
theorem reps_bls {ns : List Bool} {vs : List V} (h : Reps K F (ns.map D.bl) vs) : vs = ns.map V.bl := Reps.eq_of D.bl V.bl (fun _ _ q => q) h

/-! ### heaps -/
def isDct : HO → Bool
  | .dK _ => true
  | _ => false
/-- what F has stands in H (a dict perhaps locked) -/
def Sub (F H : Hp) : Prop := ∀ a o, F a = some o → (H a = some o ∧ NT o) ∨ (isDct o = true ∧ ∃ ob, H a = some (.frz ob o))
theorem Sub.trans_same (h : Sub F H) (g : Same H H') : Sub F H' := fun a o e => (h a o e).elim (fun z => .inl ⟨g _ _ z.1, z.2⟩) fun ⟨q, ob, z⟩ => .inr ⟨q, ob, g _ _ z⟩
theorem Sub.has (h : Sub F H) {a : Addr} {o : HO} (e : F a = some o) : H a ≠ none := fun z => by
  rcases h a o e with ⟨q, _⟩ | ⟨_, _, q⟩ <;> rw [z] at q <;> cases q
theorem Sub.free (h : Sub F H) {a : Addr} (e : H a = none) : F a = none := by
  cases q : F a with
  | none => rfl
  | some o => exact absurd e (h.has q)
theorem Sub.sqL {K : PySem.W.Frag} (h : Sub F H) {a : Addr} {xs : List V} (q : SqL K F a xs) : SqL K H a xs := by
  rcases q with (q | ⟨ob, q⟩) | q
  · rcases h _ _ q with ⟨z, _⟩ | ⟨z, _⟩
    · exact .inl (.inl z)
    · cases z
  · rcases h _ _ q with ⟨z, _⟩ | ⟨z, _⟩
    · exact .inl (.inr ⟨ob, z⟩)
    · cases z
  · exact .inr q
theorem Sub.sqT {K : PySem.W.Frag} (h : Sub F H) {a : Addr} {xs : List V} (q : SqT K F a xs) : SqT K H a xs := by
  rcases q with (q | ⟨ob, q⟩) | q
  · rcases h _ _ q with ⟨z, _⟩ | ⟨z, _⟩
    · exact .inl (.inl z)
    · cases z
  · rcases h _ _ q with ⟨z, _⟩ | ⟨z, _⟩
    · exact .inl (.inr ⟨ob, z⟩)
    · cases z
  · exact .inr q
theorem Sub.rdK (h : Sub F H) {a : Addr} {xs : List (Key × V)} (q : Rd F a (.dK xs)) : Rd H a (.dK xs) := by
  rcases q with q | ⟨ob, q⟩
  · rcases h _ _ q with ⟨z, _⟩ | ⟨_, ob, z⟩
    · exact .inl z
    · exact .inr ⟨ob, z⟩
  · rcases h _ _ q with ⟨z, _⟩ | ⟨z, _⟩
    · exact .inr ⟨ob, z⟩
    · cases z
theorem Sub.inst (h : Sub F H) {a C dx : Addr} {fs : List (Str × V)} (q : F a = some (HO.ins C dx fs)) : H a = some (HO.ins C dx fs) := by
  rcases h _ _ q with ⟨z, _⟩ | ⟨z, _⟩
  · exact z
  · cases z
theorem Sub.ext (h : Sub F H) {a : Addr} {φ : Heap → Prop} (q : F a = some (HO.ext φ)) : H a = some (HO.ext φ) := by
  rcases h _ _ q with ⟨z, _⟩ | ⟨z, _⟩
  · exact z
  · cases z
/-- more is known, nothing is changed -/
structure Stp (F H F' H' : Hp) : Prop where
  hh : LamX.ExtN H H'
  ff : Same F F'
  sub : Sub F' H'
  new : ∀ a o, F' a = some o → F a = some o ∨ H a = none
  fz : ∀ a ob u, H' a = some (.frz ob u) → H a = some (.frz ob u)
  nn : ∀ a, H' a = none → H a = none
  tb : LamX.Tabs TabsT.T H → LamX.Tabs TabsT.T H'
  tt : ∀ a ps, H a = some (.tbl ps) → ∃ ps', H' a = some (.tbl ps')
theorem Stp.refl (h : Sub F H) : Stp F H F H := ⟨.refl _, .refl _, h, fun _ _ e => .inl e, fun _ _ _ e => e, fun _ e => e, fun t => t, fun _ ps e => ⟨ps, e⟩⟩
theorem Stp.trans {F1 H1 F2 H2 : Hp} (a : Stp F H F1 H1) (b : Stp F1 H1 F2 H2) : Stp F H F2 H2 := ⟨a.hh.trans b.hh, a.ff.trans b.ff, b.sub, fun x o e => by
  rcases b.new x o e with q | q
  · exact a.new x o q
  · exact .inr (a.nn _ q), fun x ob u e => a.fz x ob u (b.fz x ob u e), fun x e => a.nn x (b.nn x e), fun t => b.tb (a.tb t), fun x ps e => let ⟨ps', e'⟩ := a.tt x ps e; b.tt x ps' e'⟩
theorem same_upd {H : Hp} {p : Addr} {o : HO} (h : H p = none) : Same H (upd H p o) := fun b u e => by
  rw [upd_ne (ne_of_none e h)]
  exact e
theorem Stp.laid (h : Sub F H) {p : Addr} {o : HO} (hp : H p = none) (nf : ∀ ob u, o ≠ .frz ob u := by intro _ _ h; cases h) (nt : NT o := by intro _ h; cases h) : Stp F H (upd F p o) (upd H p o) := ⟨.of (same_upd hp), same_upd (h.free hp), fun a u e => by
  by_cases q : a = p
  · subst q
    rw [upd_same] at e
    cases e
    exact .inl ⟨upd_same, nt⟩
  · rw [upd_ne q] at e
    rw [upd_ne q]
    exact h a u e, fun a u e => by
  by_cases q : a = p
  · subst q
    exact .inr hp
  · rw [upd_ne q] at e
    exact .inl e, fun a ob u e => by
  by_cases q : a = p
  · subst q
    rw [upd_same] at e
    cases e
    exact absurd rfl (nf _ _)
  · rw [upd_ne q] at e
    exact e, fun a e => (same_upd hp).free e, fun t => t.ext (same_upd hp), fun a ps e => ⟨ps, same_upd hp _ _ e⟩⟩

/-! ### slots -/
inductive Sl where
  | no
  | sh (d : D)
  | ow (d : D)
  | my (a : Addr) (d : D)
/-- the def's entry: what was known, what stood, the dicts that it has locked -/
structure En where
  F0 : Hp
  H0 : Hp
  L : List (Addr × Obj × HO)
/-- the object at a that stands for d -/
def Shape (K : KW) (F : Hp) (a : Addr) : D → HO → Prop
  | .lst ds, o => ∃ vs, o = .lst vs ∧ vs.length ≤ sizeLine ∧ Reps K F ds vs
  | .dk ks ds, o => ∃ vs, o = .dK (ks.zip vs) ∧ ks.length = vs.length ∧ Reps K F ds vs
  | .dn ks ds, o => ∃ kqs vs, o = DnO K.w a kqs vs ∧ RepKs K F ks kqs ∧ Reps K F ds vs
  | .ins C fs ds, o => ∃ dx vs, o = .ins C dx (fs.zip vs) ∧ fs.length = vs.length ∧ Reps K F ds vs
  | _, _ => False
theorem Shape.mono {K : KW} {F F' : Hp} (e : Same F F') {a : Addr} : ∀ {x : D} {o : HO}, Shape K F a x o → Shape K F' a x o
  | .lst ds, _, ⟨vs, a, b, c⟩ => ⟨vs, a, b, c.mono e⟩
  | .dk _ _, _, ⟨vs, a, b, c⟩ => ⟨vs, a, b, c.mono e⟩
  | .dn _ _, _, ⟨kqs, vs, a, b, c⟩ => ⟨kqs, vs, a, b.mono e, c.mono e⟩
  | .ins _ _ _, _, ⟨dx, vs, a, b, c⟩ => ⟨dx, vs, a, b, c.mono e⟩
theorem Shape.nofrz {K : KW} {F : Hp} {ob : Obj} {u : HO} {a : Addr} : ∀ {x : D}, ¬ Shape K F a x (.frz ob u)
  | .lst _, ⟨_, e, _⟩ => by cases e
  | .dk _ _, ⟨_, e, _⟩ => by cases e
  | .dn _ _, ⟨_, _, e, _⟩ => by unfold DnO at e; cases e
  | .ins _ _ _, ⟨_, _, e, _⟩ => by cases e
theorem Shape.nt {K : KW} {F : Hp} {a : Addr} : ∀ {x : D} {o : HO}, Shape K F a x o → NT o
  | .lst _, _, ⟨_, e, _⟩, _, z => by rw [e] at z; cases z
  | .dk _ _, _, ⟨_, e, _⟩, _, z => by rw [e] at z; cases z
  | .dn _ _, _, ⟨_, _, e, _⟩, _, z => by rw [e] at z; unfold DnO at z; cases z
  | .ins _ _ _, _, ⟨_, _, e, _⟩, _, z => by rw [e] at z; cases z
abbrev NC (o : HO) : Prop := ∀ c q, o ≠ LamX.CodeO c q
theorem dn_nc {w : World} {a : Addr} {kqs : List (NestedKey × Addr)} {vs : List V} : NC (DnO w a kqs vs) := fun c q z => by
  unfold DnO LamX.CodeO at z
  have e := HO.ext.inj z
  let ob : Obj := { cls := .none, data := .fields #[.none, .str q 0] }
  let h : Heap := ⟨Array.replicate (max a c + 1) ob, default⟩
  have g : ∀ b, b ≤ max a c → h.get? b = some ob := fun b hb => by
    unfold Heap.get?
    have hs : h.objs[b]? = some ob := by
      show (Array.replicate (max a c + 1) ob)[b]? = some ob
      rw [Array.getElem?_replicate, if_pos (Nat.lt_succ_of_le hb)]
    rw [hs]
  have hc : ∃ (oc : Obj) (vs : Array Value) (t : Tok), h.get? c = some oc ∧ oc.data = .fields vs ∧ vs[1]? = some (.str q t) := ⟨ob, _, 0, g c (Nat.le_max_right _ _), rfl, rfl⟩
  rw [← congrFun e h] at hc
  obtain ⟨_, _, _, _, _, _, o, es, ep, ho, _, hd, _⟩ := hc
  rw [g a (Nat.le_max_left _ _)] at ho
  cases ho
  cases hd
theorem dn_nt {w : World} {a : Addr} {kqs : List (NestedKey × Addr)} {vs : List V} : NT (DnO w a kqs vs) := fun _ z => by unfold DnO at z; cases z
theorem dn_nf {w : World} {a : Addr} {kqs : List (NestedKey × Addr)} {vs : List V} : ∀ ob u, DnO w a kqs vs ≠ .frz ob u := fun _ _ z => by unfold DnO at z; cases z
theorem Shape.nc {K : KW} {F : Hp} {a : Addr} : ∀ {x : D} {o : HO}, Shape K F a x o → NC o
  | .lst _, _, ⟨_, e, _⟩, _, _, z => by rw [e] at z; unfold LamX.CodeO at z; cases z
  | .dk _ _, _, ⟨_, e, _⟩, _, _, z => by rw [e] at z; unfold LamX.CodeO at z; cases z
  | .dn _ _, _, ⟨_, _, e, _⟩, _, _, z => by rw [e] at z; exact dn_nc _ _ z
  | .ins _ _ _, _, ⟨_, _, e, _⟩, _, _, z => by rw [e] at z; unfold LamX.CodeO at z; cases z
theorem tt_upd {H0 H : Hp} {a : Addr} {o o' : HO} (t : ∀ b ps, H0 b = some (.tbl ps) → ∃ ps', H b = some (.tbl ps')) (h : H a = some o) (nt : NT o) : ∀ b ps, H0 b = some (.tbl ps) → ∃ ps', upd H a o' b = some (.tbl ps') := fun b ps e => by
  obtain ⟨ps', e'⟩ := t b ps e
  refine ⟨ps', ?_⟩
  rw [upd_ne fun z => by rw [z, h] at e'; cases e'; exact nt _ rfl]
  exact e'
theorem tabs_upd {T : List (Addr × Str)} {H : Hp} {a : Addr} {o o' : HO} (t : LamX.Tabs T H) (h : H a = some o) (nt : NT o) (nc : NC o) : LamX.Tabs T (upd H a o') := fun p hp => by
  obtain ⟨ps, h1, h2, h3⟩ := t p hp
  have hb : p.1 ≠ a := fun z => by rw [z, h] at h1; cases h1; exact nt _ rfl
  refine ⟨ps, by rw [upd_ne hb]; exact h1, h2, fun pos cv e => ?_⟩
  obtain ⟨c, e1, e2⟩ := h3 pos cv e
  refine ⟨c, e1, ?_⟩
  have hca : c ≠ a := fun z => by rw [z, h] at e2; exact nc _ _ (Option.some.inj e2)
  rw [upd_ne hca]; exact e2
/-- known as it stands -/
theorem Shape.rep {K : KW} {F : Hp} {a : Addr} (h : F a = none) : ∀ {x : D} {u : HO}, Shape K F a x u → Rep K (upd F a u) x (.ref a)
  | .lst ds, _, ⟨vs, e, l, r⟩ => ⟨a, vs, rfl, SqL.of (by rw [upd_same, e]), l, r.mono (fun b u z => by rw [upd_ne (ne_of_none z h)]; exact z)⟩
  | .dk ks ds, _, ⟨vs, e, l, r⟩ => ⟨a, vs, rfl, .inl (by rw [upd_same, e]), l, r.mono (fun b u z => by rw [upd_ne (ne_of_none z h)]; exact z)⟩
  | .dn ks ds, _, ⟨kqs, vs, e, l, r⟩ => ⟨a, kqs, vs, rfl, by rw [upd_same, e], l.mono (fun b u z => by rw [upd_ne (ne_of_none z h)]; exact z), r.mono (fun b u z => by rw [upd_ne (ne_of_none z h)]; exact z)⟩
  | .ins C fs ds, _, ⟨dx, vs, e, l, r⟩ => ⟨a, dx, vs, rfl, by rw [upd_same, e], l, r.mono (fun b u z => by rw [upd_ne (ne_of_none z h)]; exact z)⟩
def RelO1 (K : KW) (F H : Hp) (own : Addr → Option Nat) (i : Nat) (d : D) (o : Option V) : Prop := ∃ a u, o = some (.ref a) ∧ own a = some i ∧ H a = some u ∧ Shape K F a d u
def RelSl (K : KW) (F H : Hp) (own : Addr → Option Nat) (i : Nat) : Sl → Option V → Prop
  | .no, _ => True
  | .sh d, o => ∃ v, o = some v ∧ Rep K F d v
  | .ow d, o => RelO1 K F H own i d o
  | .my a d, o => o = some (.ref a) ∧ RelO1 K F H own i d o
abbrev Rho := List Sl
structure RelS (K : KW) (N : En) (F H : Hp) (σ : L2.St) (ρ : Rho) : Prop where
  sub : Sub F H
  frz0 : Same N.F0 F
  new : ∀ a o, F a = some o → N.F0 a = some o ∨ N.H0 a = none
  old : ∀ a o, N.H0 a = some o → NT o → H a = some o ∨ ∃ ob, (a, ob, o) ∈ N.L
  nn : ∀ a, H a = none → N.H0 a = none
  tb : LamX.Tabs TabsT.T H
  tt : ∀ a ps, N.H0 a = some (.tbl ps) → ∃ ps', H a = some (.tbl ps')
  lk : ∀ p ∈ N.L, isDct p.2.2 = true ∧ H p.1 = some (.frz p.2.1 p.2.2)
  fz : ∀ a ob u, H a = some (.frz ob u) → N.H0 a = some (.frz ob u) ∨ (a, ob, u) ∈ N.L
  sl : ∃ own : Addr → Option Nat, (∀ a i, own a = some i → F a = none ∧ N.H0 a = none ∧ H a ≠ none) ∧ ∀ i s, ρ[i]? = some s → ∃ o, σ[i]? = some o ∧ RelSl K F H own i s o
variable {N : En} {σ : L2.St} {ρ : Rho}
theorem RelS.fresh (h : RelS K N F H σ ρ) {a : Addr} (e : H a = none) : N.H0 a = none := h.nn a e
theorem RelO1.step {own : Addr → Option Nat} {i : Nat} (s : Stp F H F' H') {d : D} {o : Option V} : RelO1 K F H own i d o → RelO1 K F' H' own i d o :=
  fun ⟨a, u, e, w, h, r⟩ => ⟨a, u, e, w, s.hh _ _ h r.nt, r.mono s.ff⟩
theorem RelSl.step {own : Addr → Option Nat} {i : Nat} (s : Stp F H F' H') : ∀ {d : Sl} {o : Option V}, RelSl K F H own i d o → RelSl K F' H' own i d o
  | .no, _, _ => trivial
  | .sh d, _, ⟨v, e, r⟩ => ⟨v, e, r.mono s.ff⟩
  | .ow d, _, h => RelO1.step s h
  | .my _ _, _, h => ⟨h.1, RelO1.step s h.2⟩
theorem RelS.step (h : RelS K N F H σ ρ) (s : Stp F H F' H') : RelS K N F' H' σ ρ := by
  obtain ⟨own, w1, w2⟩ := h.sl
  refine ⟨s.sub, h.frz0.trans s.ff, fun a o e => ?_, fun a o e nt => ?_, fun a e => h.nn a (s.nn a e), s.tb h.tb, fun a ps e => (let ⟨ps', e'⟩ := h.tt a ps e; s.tt a ps' e'), fun p hp => ⟨(h.lk p hp).1, s.hh _ _ (h.lk p hp).2 (fun _ z => by cases z)⟩, fun a ob u e => h.fz a ob u (s.fz a ob u e), own, fun a i e => ?_, fun i d e => ?_⟩
  · rcases s.new a o e with q | q
    · exact h.new a o q
    · exact .inr (h.fresh q)
  · rcases h.old a o e nt with q | q
    · exact .inl (s.hh _ _ q nt)
    · exact .inr q
  · obtain ⟨q1, q2, q3⟩ := w1 a i e
    refine ⟨?_, q2, fun z => q3 (s.nn _ z)⟩
    cases q : F' a with
    | none => rfl
    | some o =>
      rcases s.new a o q with z | z
      · rw [q1] at z; cases z
      · exact absurd z q3
  · obtain ⟨o, e1, r⟩ := w2 i d e
    exact ⟨o, e1, r.step s⟩
end
end Dc

namespace Dc
open PySem PySem.Spec
open PyProof.Rows L2
variable [TabsT]

/-- the written part and the world of a context -/
abbrev _root_.L2.Cx.kw (X : Cx) : KW := ⟨X.K, X.w⟩
def Opd (K : KW) (F : Hp) (σ : L2.St) (ρ : Rho) (x : D) (v : V) : Prop := Rep K F x v ∨ ∃ i : Nat, σ[i]? = some (some v) ∧ (ρ[i]? = some (Sl.ow x) ∨ ∃ a, ρ[i]? = some (Sl.my a x))
def Opds (K : KW) (F : Hp) (σ : L2.St) (ρ : Rho) : List D → List V → Prop
  | [], vs => vs = []
  | d :: ds, vs => ∃ v r, vs = v :: r ∧ Opd K F σ ρ d v ∧ Opds K F σ ρ ds r
/-- d as it stands in H, what is in it by F -/
def RepB (K : KW) (F H : Hp) : D → V → Prop
  | .tup xs, v => ∃ a vs, v = .ref a ∧ SqT K.K H a vs ∧ vs.length ≤ sizeLine ∧ Reps K F xs vs
  | .lst xs, v => ∃ a vs, v = .ref a ∧ SqL K.K H a vs ∧ vs.length ≤ sizeLine ∧ Reps K F xs vs
  | .dk ks xs, v => ∃ a vs, v = .ref a ∧ Rd H a (.dK (ks.zip vs)) ∧ ks.length = vs.length ∧ Reps K F xs vs
  | .dn ks xs, v => ∃ a kqs vs, v = .ref a ∧ H a = some (DnO K.w a kqs vs) ∧ RepKs K F ks kqs ∧ Reps K F xs vs
  | .ins C fs xs, v => ∃ a dx vs, v = .ref a ∧ H a = some (.ins C dx (fs.zip vs)) ∧ fs.length = vs.length ∧ Reps K F xs vs
  | .ab r, v => ∃ a, v = .ref a ∧ ∀ F', Same F F' → r F' a
  | .non, v => v = .non
  | .bl b, v => v = .bl b
  | .int i, v => v = .int i
  | .str x, v => v = .str x
  | .rf a, v => v = .ref a
section
variable {K : KW} {F F' H H' : Hp} {N : En} {σ : L2.St} {ρ : Rho}
theorem Rep.b (h : Sub F H) : ∀ {x : D} {v : V}, Rep K F x v → RepB K F H x v
  | .tup xs, _, ⟨a, vs, e, q, l, r⟩ => ⟨a, vs, e, h.sqT q, l, r⟩
  | .lst xs, _, ⟨a, vs, e, q, l, r⟩ => ⟨a, vs, e, h.sqL q, l, r⟩
  | .dk ks xs, _, ⟨a, vs, e, q, l, r⟩ => ⟨a, vs, e, h.rdK q, l, r⟩
  | .dn ks xs, _, ⟨a, kqs, vs, e, q, l, r⟩ => ⟨a, kqs, vs, e, h.ext q, l, r⟩
  | .ins C fs xs, _, ⟨a, dx, vs, e, q, l, r⟩ => ⟨a, dx, vs, e, h.inst q, l, r⟩
  | .ab _, _, q => q
  | .non, _, q => q
  | .bl _, _, q => q
  | .int _, _, q => q
  | .str _, _, q => q
  | .rf _, _, q => q
theorem Shape.b {a : Addr} : ∀ {x : D} {u : HO}, Shape K F a x u → H a = some u → RepB K F H x (.ref a)
  | .lst ds, _, ⟨vs, e, l, r⟩, h => ⟨a, vs, rfl, SqL.of (by rw [h, e]), l, r⟩
  | .dk ks ds, _, ⟨vs, e, l, r⟩, h => ⟨a, vs, rfl, .inl (by rw [h, e]), l, r⟩
  | .dn ks ds, _, ⟨kqs, vs, e, l, r⟩, h => ⟨a, kqs, vs, rfl, by rw [h, e], l, r⟩
  | .ins _ _ _, _, ⟨dx, vs, e, l, r⟩, h => ⟨a, dx, vs, rfl, by rw [h, e], l, r⟩
theorem RelO1.b {own : Addr → Option Nat} {i : Nat} {x : D} {v : V} : RelO1 K F H own i x (some v) → RepB K F H x v := fun ⟨a, u, e, _, h, sh⟩ => by
  cases e
  exact sh.b h
theorem RelS.opd (R : RelS K N F H σ ρ) {x : D} {v : V} (h : Opd K F σ ρ x v) : RepB K F H x v := by
  rcases h with h | ⟨i, h1, h2⟩
  · exact h.b R.sub
  · obtain ⟨own, _, w⟩ := R.sl
    rcases h2 with h2 | ⟨a, h2⟩
    · obtain ⟨o, e, r⟩ := w i _ h2
      rw [h1] at e; cases e
      exact RelO1.b r
    · obtain ⟨o, e, _, r⟩ := w i _ h2
      rw [h1] at e; cases e
      exact RelO1.b r
theorem Opd.mono (e : Same F F') {x : D} {v : V} (h : Opd K F σ ρ x v) : Opd K F' σ ρ x v := h.imp (Rep.mono e) id
theorem Opds.mono (e : Same F F') : ∀ {xs : List D} {vs : List V}, Opds K F σ ρ xs vs → Opds K F' σ ρ xs vs
  | [], _, h => h
  | d :: ds, _, ⟨v, r, e1, h1, h2⟩ => ⟨v, r, e1, h1.mono e, Opds.mono e h2⟩
theorem Opds.one {x : D} {vs : List V} (h : Opds K F σ ρ [x] vs) : ∃ v, vs = [v] ∧ Opd K F σ ρ x v := by
  obtain ⟨v, r, e, h1, h2⟩ := h
  rw [show r = [] from h2] at e
  exact ⟨v, e, h1⟩
theorem Opds.two {x y : D} {vs : List V} (h : Opds K F σ ρ [x, y] vs) : ∃ v u, vs = [v, u] ∧ Opd K F σ ρ x v ∧ Opd K F σ ρ y u := by
  obtain ⟨v, r, e, h1, h2⟩ := h
  obtain ⟨u, e2, h3⟩ := h2.one
  exact ⟨v, u, by rw [e, e2], h1, h3⟩
end

/-! ### the judgements: a part's reading over slots, and one over data -/
abbrev DTE := Rho → (D → Rho → Prop) → Prop
abbrev DTT := Rho → (Bool → Rho → Prop) → Prop
abbrev DTA := Rho → (List D → Rho → Prop) → Prop
abbrev DTB := Rho → (List D → Prop) → Prop
structure DE (X : Cx) (e : Expr) (t : TE) (d : DTE) : Prop where
  pe : PE X e t
  le : ∀ (N : En) (F H : Hp) (σ : L2.St) (ρ : Rho) (P : D → Rho → Prop) (Q : VK), RelS X.kw N F H σ ρ → d ρ P →
    (∀ x v F' H' ρ', P x ρ' → Same F F' → RelS X.kw N F' H' σ ρ' → Rep X.kw F' x v → Q v H') → t σ H Q
/-- .. that is looked at alone, and then let go -/
structure DC (X : Cx) (e : Expr) (t : TE) (d : DTE) : Prop where
  pe : PE X e t
  le : ∀ (N : En) (F H : Hp) (σ : L2.St) (ρ : Rho) (P : D → Rho → Prop) (Q : VK), RelS X.kw N F H σ ρ → d ρ P →
    (∀ x v F' H' ρ', P x ρ' → Same F F' → RelS X.kw N F' H' σ ρ' → Opd X.kw F' σ ρ' x v → Q v H') → t σ H Q
structure DT (X : Cx) (e : Expr) (t : TT) (d : DTT) : Prop where
  pt : PT X e t
  lt : ∀ (N : En) (F H : Hp) (σ : L2.St) (ρ : Rho) (P : Bool → Rho → Prop) (Q : Bool → Hp → Prop), RelS X.kw N F H σ ρ → d ρ P →
    (∀ b F' H' ρ', P b ρ' → Same F F' → RelS X.kw N F' H' σ ρ' → Q b H') → t σ H Q
structure DW (X : Cx) (e : Expr) (t : TT) (d : DTT) : Prop where
  pw : PW X e t
  lt : ∀ (N : En) (F H : Hp) (σ : L2.St) (ρ : Rho) (P : Bool → Rho → Prop) (Q : Bool → Hp → Prop), RelS X.kw N F H σ ρ → d ρ P →
    (∀ b F' H' ρ', P b ρ' → Same F F' → RelS X.kw N F' H' σ ρ' → Q b H') → t σ H Q
structure DA (X : Cx) (es : List Expr) (t : TA) (d : DTA) : Prop where
  pa : PA X es t
  la : ∀ (N : En) (F H : Hp) (σ : L2.St) (ρ : Rho) (P : List D → Rho → Prop) (Q : List V → Hp → Prop), RelS X.kw N F H σ ρ → d ρ P →
    (∀ xs vs F' H' ρ', P xs ρ' → Same F F' → RelS X.kw N F' H' σ ρ' → Reps X.kw F' xs vs → Q vs H') → t σ H Q
structure DB (X : Cx) (es : List Expr) (t : TA) (d : DTB) : Prop where
  pa : PA X es t
  la : ∀ (N : En) (F H : Hp) (σ : L2.St) (ρ : Rho) (P : List D → Prop) (Q : List V → Hp → Prop), RelS X.kw N F H σ ρ → d ρ P →
    (∀ xs vs F' H', P xs → Same F F' → RelS X.kw N F' H' σ ρ → Opds X.kw F' σ ρ xs vs → Q vs H') → t σ H Q
theorem DW.dt {X : Cx} {e : Expr} {t : TT} {d : DTT} (h : DW X e t d) : DT X e t d := ⟨h.pw.pt, h.lt⟩
theorem dc_of {X : Cx} {e : Expr} {t : TE} {d : DTE} (h : DE X e t d) : DC X e t d := ⟨h.pe, fun N F H σ ρ P Q R q k => h.le N F H σ ρ P Q R q fun x v F' H' ρ' p s R' r => k x v F' H' ρ' p s R' (.inl r)⟩

section
variable {X : Cx} {pos : Pos}
/-! ### constants, names -/
def dK1 (x : D) : DTE := fun ρ P => P x ρ
theorem RelS.self {K : KW} {N : En} {F H : Hp} {σ : L2.St} {ρ : Rho} (R : RelS K N F H σ ρ) : Same F F := Same.refl F
theorem de_int {i j} : DE X (.Constant (.int i) j pos) (tC (.int i)) (dK1 (.int i)) := ⟨pe_int, fun _ F H _ ρ _ _ R q k => k _ _ F H ρ q (.refl _) R rfl⟩
theorem de_bl {i j} : DE X (.Constant (.bool i) j pos) (tC (.bl i)) (dK1 (.bl i)) := ⟨pe_bl, fun _ F H _ ρ _ _ R q k => k _ _ F H ρ q (.refl _) R rfl⟩
theorem de_non {j} : DE X (.Constant .none j pos) (tC .non) (dK1 .non) := ⟨pe_non, fun _ F H _ ρ _ _ R q k => k _ _ F H ρ q (.refl _) R rfl⟩
theorem de_str {i j} : DE X (.Constant (.str i) j pos) (tC (.str i)) (dK1 (.str i)) := ⟨pe_str, fun _ F H _ ρ _ _ R q k => k _ _ F H ρ q (.refl _) R rfl⟩
/-- a module's name that stands for data -/
theorem de_gl {x : Str} {u : Value} {v : V} {d : D} (hg : Gl X x) (hm : X.mg x = some u) (r : RelV v u) (hd : ∀ F, Rep X.kw F d v) (hdb : (x == ("__debug__" : Str)) = false := by decide) : DE X (.Name x pos) (tC v) (dK1 d) :=
  ⟨pe_glob hg hm r hdb, fun _ F H _ ρ _ _ R q k => k _ _ F H ρ q (.refl _) R (hd F)⟩
/-- a builtin's name as a value -/
theorem de_bn {x : Str} {u : Value} {v : V} {d : D} (hg : Gl X x) (hm : X.mg x = none) (hv : bootBuiltins x = some u) (r : RelV v u) (hd : ∀ F, Rep X.kw F d v) (hn : x ≠ "__name__" := by decide) (hdb : (x == ("__debug__" : Str)) = false := by decide) :
    DE X (.Name x pos) (tC v) (dK1 d) := ⟨pe_bltn hg hm hv r hn hdb, fun _ F H _ ρ _ _ R q k => k _ _ F H ρ q (.refl _) R (hd F)⟩
/-- a slot's value; what was the def's own is given out -/
def dVar (i : Nat) : DTE := fun ρ P => match ρ[i]? with
  | some (.sh x) => P x ρ
  | some (.ow x) => P x (ρ.set i (.sh x))
  | _ => False
/-- a slot's value, looked at alone -/
def dLook (i : Nat) : DTE := fun ρ P => match ρ[i]? with
  | some (.sh x) => P x ρ
  | some (.ow x) => P x ρ
  | some (.my _ x) => P x ρ
  | _ => False
theorem RelS.freeze {K : KW} {N : En} {F H : Hp} {σ : L2.St} {ρ : Rho} (R : RelS K N F H σ ρ) {i : Nat} {x : D} (h : ρ[i]? = some (.ow x)) :
    ∃ v F', σ[i]? = some (some v) ∧ Same F F' ∧ RelS K N F' H σ (ρ.set i (.sh x)) ∧ Rep K F' x v := by
  obtain ⟨own, w1, w2⟩ := R.sl
  obtain ⟨o, e, r⟩ := w2 i _ h
  obtain ⟨a, u, ea, wa, ha, sh⟩ := r
  obtain ⟨q1, q2, q3⟩ := w1 a i wa
  have hr : Rep K (upd F a u) x (.ref a) := sh.rep q1
  have sm : Same F (upd F a u) := same_upd q1
  have ne : ∀ b j, own b = some j → j ≠ i → b ≠ a := fun b j e1 e2 z => by subst z; rw [wa] at e1; cases e1; exact e2 rfl
  refine ⟨.ref a, upd F a u, by rw [e, ea], sm, ⟨?_, R.frz0.trans sm, ?_, R.old, R.nn, R.tb, R.tt, R.lk, R.fz, fun b => if b = a then none else own b, ?_, ?_⟩, hr⟩
  · intro b o' eb
    by_cases hb : b = a
    · subst hb; rw [upd_same] at eb; cases eb; exact .inl ⟨ha, sh.nt⟩
    · rw [upd_ne hb] at eb; exact R.sub b o' eb
  · intro b o' eb
    by_cases hb : b = a
    · subst hb; exact .inr q2
    · rw [upd_ne hb] at eb; exact R.new b o' eb
  · intro b j eb
    by_cases hb : b = a
    · simp [hb] at eb
    · simp only [hb, if_false] at eb
      obtain ⟨z1, z2, z3⟩ := w1 b j eb
      exact ⟨by rw [upd_ne hb]; exact z1, z2, z3⟩
  · intro j s es
    by_cases hj : j = i
    · subst hj
      have hl : j < ρ.length := (List.getElem?_eq_some_iff.mp h).1
      rw [List.getElem?_set_self hl] at es
      cases es
      exact ⟨o, e, .ref a, ea, hr⟩
    · rw [List.getElem?_set_ne (Ne.symm hj)] at es
      obtain ⟨o', e', r'⟩ := w2 j s es
      refine ⟨o', e', ?_⟩
      cases s with
      | no => trivial
      | sh d => obtain ⟨v, e1, r1⟩ := r'; exact ⟨v, e1, r1.mono sm⟩
      | ow d =>
        obtain ⟨b, w, e1, ow, hh, rr⟩ := r'
        exact ⟨b, w, e1, by simp [ne b j ow hj, ow], hh, rr.mono sm⟩
      | my _ d =>
        obtain ⟨e0, b, w, e1, ow, hh, rr⟩ := r'
        exact ⟨e0, b, w, e1, by simp [ne b j ow hj, ow], hh, rr.mono sm⟩
theorem RelS.shared {K : KW} {N : En} {F H : Hp} {σ : L2.St} {ρ : Rho} (R : RelS K N F H σ ρ) {i : Nat} {x : D} (h : ρ[i]? = some (.sh x)) : ∃ v, σ[i]? = some (some v) ∧ Rep K F x v := by
  obtain ⟨own, _, w2⟩ := R.sl
  obtain ⟨o, e, v, e1, r⟩ := w2 i _ h
  exact ⟨v, by rw [e, e1], r⟩
theorem RelS.owned {K : KW} {N : En} {F H : Hp} {σ : L2.St} {ρ : Rho} (R : RelS K N F H σ ρ) {i : Nat} {x : D} (h : ρ[i]? = some (.ow x)) : ∃ v, σ[i]? = some (some v) := by
  obtain ⟨v, _, e, _⟩ := R.freeze h
  exact ⟨v, e⟩
theorem le_var {K : KW} {N : En} {F H : Hp} {σ : L2.St} {ρ : Rho} {P : D → Rho → Prop} {Q : VK} {i : Nat} (R : RelS K N F H σ ρ) (q : dVar i ρ P)
    (k : ∀ x v F' H' ρ', P x ρ' → Same F F' → RelS K N F' H' σ ρ' → Rep K F' x v → Q v H') : tVar i σ H Q := by
  unfold dVar at q
  split at q
  · rename_i x h
    obtain ⟨v, e, r⟩ := R.shared h
    exact ⟨v, e, k x v F H ρ q (.refl _) R r⟩
  · rename_i x h
    obtain ⟨v, F', e, s, R', r⟩ := R.freeze h
    exact ⟨v, e, k x v F' H _ q s R' r⟩
  · exact q.elim
theorem de_v (i : Nat) {x : Str} (hN : X.N[i]? = some x := by rfl) (hv : Vis X.env.scope x := by first | exact Or.inl rfl | exact Or.inr (Or.inl rfl) | exact Or.inr (Or.inr rfl)) (hd : (x == ("__debug__" : Str)) = false := by decide)
    (hcd : (x == ("__classdict__" : Str)) = false := by decide) : DE X (.Name x pos) (tVar i) (dVar i) := ⟨pe_var hN hv hd hcd, fun _ _ _ _ _ _ _ R q k => le_var R q k⟩
theorem dc_v (i : Nat) {x : Str} (hN : X.N[i]? = some x := by rfl) (hv : Vis X.env.scope x := by first | exact Or.inl rfl | exact Or.inr (Or.inl rfl) | exact Or.inr (Or.inr rfl)) (hd : (x == ("__debug__" : Str)) = false := by decide)
    (hcd : (x == ("__classdict__" : Str)) = false := by decide) : DC X (.Name x pos) (tVar i) (dLook i) := ⟨pe_var hN hv hd hcd, fun N F H σ ρ P Q R q k => by
  unfold dLook at q
  split at q
  · rename_i x h
    obtain ⟨v, e, r⟩ := R.shared h
    exact ⟨v, e, k x v F H ρ q (.refl _) R (.inl r)⟩
  · rename_i x h
    obtain ⟨v, e⟩ := R.owned h
    exact ⟨v, e, k x v F H ρ q (.refl _) R (.inr ⟨i, e, .inl h⟩)⟩
  · rename_i a x h
    obtain ⟨own, w1, w2⟩ := R.sl
    obtain ⟨o, e, e0, _⟩ := w2 i _ h
    exact ⟨_, by rw [e, e0], k x (.ref a) F H ρ q (.refl _) R (.inr ⟨i, by rw [e, e0], .inr ⟨a, h⟩⟩)⟩
  · exact q.elim⟩

/-! ### operators -/
/-- a two-place reading of values by one of data -/
def LR (K : KW) (r : R2) (rd : D → D → (D → Prop) → Prop) : Prop := ∀ (N : En) (F H : Hp) (σ : L2.St) (ρ : Rho) (x y : D) (v u : V) (P : D → Prop) (Q : VK), RelS K N F H σ ρ → Opd K F σ ρ x v → Opd K F σ ρ y u → rd x y P →
  (∀ z w F' H', P z → Stp F H F' H' → Rep K F' z w → Q w H') → r v u H Q
def dOp (rd : D → D → (D → Prop) → Prop) (da db : DTE) : DTE := fun ρ P => da ρ fun x ρ1 => db ρ1 fun y ρ2 => ρ2 = ρ1 ∧ rd x y fun z => P z ρ2
variable {a b c : Expr} {ta tb tc : TE} {da db dc : DTE}
theorem le_op {r : R2} {rd : D → D → (D → Prop) → Prop} (l : LR X.kw r rd) (ha : DC X a ta da) (hb : DC X b tb db) (N : En) (F H : Hp) (σ : L2.St) (ρ : Rho) (P : D → Rho → Prop) (Q : VK) (R : RelS X.kw N F H σ ρ) (q : dOp rd da db ρ P)
    (k : ∀ x v F' H' ρ', P x ρ' → Same F F' → RelS X.kw N F' H' σ ρ' → Rep X.kw F' x v → Q v H') : tOp r ta tb σ H Q := by
  refine ha.le N F H σ ρ _ _ R q fun x v F1 H1 ρ1 q1 s1 R1 r1 => ?_
  refine hb.le N F1 H1 σ ρ1 _ _ R1 q1 fun y u F2 H2 ρ2 q2 s2 R2 r2 => ?_
  obtain ⟨e, q2⟩ := q2
  subst e
  exact l N F2 H2 σ ρ2 x y v u _ Q R2 (r1.mono s2) r2 q2 fun z w F3 H3 p st rr => k z w F3 H3 ρ2 p ((s1.trans s2).trans st.ff) (R2.step st) rr
theorem de_op {op : Operator} {r : R2} {rd : D → D → (D → Prop) → Prop} (ho : OpR X (binaryOp op) r) (l : LR X.kw r rd) (ha : DC X a ta da) (hb : DC X b tb db) : DE X (.BinOp a op b pos) (tOp r ta tb) (dOp rd da db) := ⟨pe_op ho ha.pe hb.pe, le_op l ha hb⟩
theorem de_cmp {op : CmpOp} {r : R2} {rd : D → D → (D → Prop) → Prop} (ho : OpR X (compareOp op) r) (l : LR X.kw r rd) (ha : DC X a ta da) (hb : DC X b tb db) (hm : behindInMarks op b = false := by first | exact nomark _ | rfl) :
    DE X (.Compare a [op] [b] pos) (tOp r ta tb) (dOp rd da db) := ⟨pe_cmpR ho ha.pe hb.pe hm, le_op l ha hb⟩
theorem de_ix {r : R2} {rd : D → D → (D → Prop) → Prop} (ho : IxR X r) (l : LR X.kw r rd) (ha : DC X a ta da) (hb : DC X b tb db) (hs : PlainIx b := by exact fun _ _ => rfl) : DE X (.Subscript a b pos) (tOp r ta tb) (dOp rd da db) := ⟨pe_ix ho ha.pe hb.pe hs, le_op l ha hb⟩
/-- .. the index may change what is the def's own -/
def dOpE (rd : D → D → (D → Prop) → Prop) (da db : DTE) : DTE := fun ρ P => da ρ fun x ρ1 => db ρ1 fun y ρ2 => rd x y fun z => P z ρ2
theorem de_ixE {r : R2} {rd : D → D → (D → Prop) → Prop} (ho : IxR X r) (l : LR X.kw r rd) (ha : DE X a ta da) (hb : DE X b tb db) (hs : PlainIx b := by exact fun _ _ => rfl) : DE X (.Subscript a b pos) (tOp r ta tb) (dOpE rd da db) :=
  ⟨pe_ix ho ha.pe hb.pe hs, fun N F H σ ρ P Q R q k => by
    refine ha.le N F H σ ρ _ _ R q fun x v F1 H1 ρ1 q1 s1 R1 r1 => ?_
    refine hb.le N F1 H1 σ ρ1 _ _ R1 q1 fun y u F2 H2 ρ2 q2 s2 R2 r2 => ?_
    exact l N F2 H2 σ ρ2 x y v u _ Q R2 (.inl (r1.mono s2)) (.inl r2) q2 fun z w F3 H3 p st rr => k z w F3 H3 ρ2 p ((s1.trans s2).trans st.ff) (R2.step st) rr⟩
/-- ints -/
def rdI (C : Int → Int → Prop) (g : Int → Int → D) : D → D → (D → Prop) → Prop := fun x y P => match x, y with
  | .int i, .int j => C i j ∧ P (g i j)
  | _, _ => False
def rdI0 (g : Int → Int → D) : D → D → (D → Prop) → Prop := fun x y P => match x, y with
  | .int i, .int j => P (g i j)
  | _, _ => False
theorem opd_int {K : KW} {N : En} {F H : Hp} {σ : L2.St} {ρ : Rho} {i : Int} {v : V} (R : RelS K N F H σ ρ) (h : Opd K F σ ρ (.int i) v) : v = .int i := R.opd h
theorem lr_I {K : KW} {C : Int → Int → Prop} {g : Int → Int → V} {gd : Int → Int → D} (hg : ∀ F i j, Rep K F (gd i j) (g i j)) : LR K (rI C g) (rdI C gd) := by
  intro N F H σ ρ x y v u P Q R hx hy h k
  unfold rdI at h
  split at h
  · obtain ⟨hc, h⟩ := h
    exact ⟨_, _, opd_int R hx, opd_int R hy, hc, k _ _ F H h (.refl R.sub) (hg F _ _)⟩
  · exact h.elim
theorem lr_I0 {K : KW} {g : Int → Int → V} {gd : Int → Int → D} (hg : ∀ F i j, Rep K F (gd i j) (g i j)) : LR K (rI0 g) (rdI0 gd) := by
  intro N F H σ ρ x y v u P Q R hx hy h k
  unfold rdI0 at h
  split at h
  · exact ⟨_, _, opd_int R hx, opd_int R hy, k _ _ F H h (.refl R.sub) (hg F _ _)⟩
  · exact h.elim
abbrev rdAdd := rdI0 fun i j => .int (i + j)
abbrev rdSub := rdI0 fun i j => .int (i - j)
abbrev rdMul := rdI CMul fun i j => .int (i * j)
theorem de_add (ha : DC X a ta da) (hb : DC X b tb db) : DE X (.BinOp a .Add b pos) (tOp (rI0 fun i j => .int (i + j)) ta tb) (dOp rdAdd da db) := de_op op_add (lr_I0 fun _ _ _ => rfl) ha hb
theorem de_sub (ha : DC X a ta da) (hb : DC X b tb db) : DE X (.BinOp a .Sub b pos) (tOp (rI0 fun i j => .int (i - j)) ta tb) (dOp rdSub da db) := de_op op_sub (lr_I0 fun _ _ _ => rfl) ha hb
theorem de_mul (ha : DC X a ta da) (hb : DC X b tb db) : DE X (.BinOp a .Mult b pos) (tOp (rI CMul fun i j => .int (i * j)) ta tb) (dOp rdMul da db) := de_op op_mul (lr_I fun _ _ _ => rfl) ha hb
abbrev rdMod := rdI (fun _ j => 0 < j) fun i j => .int (i % j)
abbrev rdDiv := rdI CDiv fun i j => .int (i / j)
abbrev rdPow := rdI CPow fun i j => .int (i ^ j.toNat)
theorem de_mod (ha : DC X a ta da) (hb : DC X b tb db) : DE X (.BinOp a .Mod b pos) (tOp (rI (fun _ j => 0 < j) fun i j => .int (i % j)) ta tb) (dOp rdMod da db) := de_op op_mod (lr_I fun _ _ _ => rfl) ha hb
theorem de_div (ha : DC X a ta da) (hb : DC X b tb db) : DE X (.BinOp a .FloorDiv b pos) (tOp (rI CDiv fun i j => .int (i / j)) ta tb) (dOp rdDiv da db) := de_op op_fdiv (lr_I fun _ _ _ => rfl) ha hb
theorem de_pow (ha : DC X a ta da) (hb : DC X b tb db) : DE X (.BinOp a .Pow b pos) (tOp (rI CPow fun i j => .int (i ^ j.toNat)) ta tb) (dOp rdPow da db) := de_op op_pow (lr_I fun _ _ _ => rfl) ha hb
abbrev rdLt := rdI0 fun i j => .bl (decide (i < j))
abbrev rdLe := rdI0 fun i j => .bl (decide (i ≤ j))
abbrev rdGt := rdI0 fun i j => .bl (decide (j < i))
abbrev rdGe := rdI0 fun i j => .bl (decide (j ≤ i))
theorem lr_lt {K : KW} : LR K (rI0 fun i j => .bl (decide (i < j))) rdLt := lr_I0 fun _ _ _ => rfl
theorem lr_le {K : KW} : LR K (rI0 fun i j => .bl (decide (i ≤ j))) rdLe := lr_I0 fun _ _ _ => rfl
theorem lr_gt {K : KW} : LR K (rI0 fun i j => .bl (decide (j < i))) rdGt := lr_I0 fun _ _ _ => rfl
theorem lr_ge {K : KW} : LR K (rI0 fun i j => .bl (decide (j ≤ i))) rdGe := lr_I0 fun _ _ _ => rfl
/-- scalars -/
def scalD : D → D → Option Bool
  | .non, .non => some true | .non, .int _ => some false | .int _, .non => some false | .non, .bl _ => some false | .bl _, .non => some false | .non, .str _ => some false | .str _, .non => some false
  | .int i, .int j => some (decide (i = j)) | .bl i, .bl j => some (decide (i = j)) | .str i, .str j => some (decide (i = j))
  | .int _, .str _ => some false | .str _, .int _ => some false | .bl _, .str _ => some false | .str _, .bl _ => some false
  | _, _ => none
theorem scal_of {K : KW} {N : En} {F H : Hp} {σ : L2.St} {ρ : Rho} {x y : D} {v u : V} {e : Bool} (R : RelS K N F H σ ρ) (hx : Opd K F σ ρ x v) (hy : Opd K F σ ρ y u) (h : scalD x y = some e) : scal v u = true ∧ decide (v = u) = e := by
  have hx := R.opd hx
  have hy := R.opd hy
  cases x <;> cases y <;> first
    | (cases h; done)
    | (cases hx; cases hy; simp only [scalD, Option.some.injEq] at h; subst h; first | exact ⟨rfl, by simp⟩ | exact ⟨rfl, rfl⟩)
def rdEq : D → D → (D → Prop) → Prop := fun x y P => match scalD x y with
  | some e => P (.bl e)
  | none => False
def rdNe : D → D → (D → Prop) → Prop := fun x y P => match scalD x y with
  | some e => P (.bl (!e))
  | none => False
theorem lr_eq {K : KW} : LR K rEq rdEq := by
  intro N F H σ ρ x y v u P Q R hx hy h k
  unfold rdEq at h
  split at h
  · rename_i e he
    obtain ⟨h1, h2⟩ := scal_of R hx hy he
    exact ⟨h1, k _ _ F H h (.refl R.sub) (congrArg V.bl h2)⟩
  · exact h.elim
theorem lr_ne {K : KW} : LR K rNe rdNe := by
  intro N F H σ ρ x y v u P Q R hx hy h k
  unfold rdNe at h
  split at h
  · rename_i e he
    obtain ⟨h1, h2⟩ := scal_of R hx hy he
    exact ⟨h1, k _ _ F H h (.refl R.sub) (congrArg (fun z => V.bl (!z)) h2)⟩
  · exact h.elim
/-- is None, is not None -/
def isNonD : D → Bool
  | .non => true
  | _ => false
theorem isNon_of {K : KW} {F H : Hp} : ∀ {x : D} {v : V}, RepB K F H x v → decide (v = .non) = isNonD x
  | .tup _, _, ⟨_, _, e, _⟩ => by rw [e]; rfl
  | .lst _, _, ⟨_, _, e, _⟩ => by rw [e]; rfl
  | .dk _ _, _, ⟨_, _, e, _⟩ => by rw [e]; rfl
  | .dn _ _, _, ⟨_, _, _, e, _⟩ => by rw [e]; rfl
  | .ins _ _ _, _, ⟨_, _, _, e, _⟩ => by rw [e]; rfl
  | .ab _, _, ⟨_, e, _⟩ => by rw [e]; rfl
  | .non, _, e => by rw [show _ = _ from e]; rfl
  | .bl _, _, e => by rw [show _ = _ from e]; rfl
  | .int _, _, e => by rw [show _ = _ from e]; rfl
  | .str _, _, e => by rw [show _ = _ from e]; rfl
  | .rf _, _, e => by rw [show _ = _ from e]; rfl
def dMapB (g : D → Bool) (da : DTE) : DTE := fun ρ P => da ρ fun x ρ1 => P (.bl (g x)) ρ1
theorem de_isN {j p'} (ha : DC X a ta da) : DE X (.Compare a [.Is] [.Constant .none j p'] pos) (tIsN ta) (dMapB isNonD da) := ⟨pe_cmp (pc_isN ha.pe), fun N F H σ ρ P Q R q k =>
  ha.le N F H σ ρ _ _ R q fun x v F1 H1 ρ1 q1 s1 R1 r1 => k _ _ F1 H1 ρ1 q1 s1 R1 (congrArg V.bl (isNon_of (R1.opd r1)))⟩
theorem de_notN {j p'} (ha : DC X a ta da) : DE X (.Compare a [.IsNot] [.Constant .none j p'] pos) (tNotN ta) (dMapB (fun x => !isNonD x) da) := ⟨pe_cmp (pc_notN ha.pe), fun N F H σ ρ P Q R q k =>
  ha.le N F H σ ρ _ _ R q fun x v F1 H1 ρ1 q1 s1 R1 r1 => k _ _ F1 H1 ρ1 q1 s1 R1 (congrArg (fun z => V.bl (!z)) (isNon_of (R1.opd r1)))⟩
/-- a < b < c -/
def dChain (rd rd' : D → D → (D → Prop) → Prop) (da db dc : DTE) : DTE := fun ρ P => da ρ fun x ρ1 => db ρ1 fun y ρ2 => ρ2 = ρ1 ∧ rd x y fun z => match z with
  | .bl true => dc ρ2 fun w ρ3 => ρ3 = ρ2 ∧ rd' y w fun z => P z ρ3
  | .bl false => P (.bl false) ρ2
  | _ => False
theorem rep_bl {K : KW} {F : Hp} {b : Bool} {v : V} (h : Rep K F (.bl b) v) : v = .bl b := h
theorem de_chain {op op' : CmpOp} {r r' : R2} {rd rd' : D → D → (D → Prop) → Prop} (ho : OpR X (compareOp op) r) (ho' : OpR X (compareOp op') r') (l : LR X.kw r rd) (l' : LR X.kw r' rd') (ha : DC X a ta da) (hb : DC X b tb db) (hc : DC X c tc dc) (hm : lastMarks [op, op'] [b, c] = false := by rfl) :
    DE X (.Compare a [op, op'] [b, c] pos) (tChain r r' ta tb tc) (dChain rd rd' da db dc) := ⟨pe_chain ho ho' ha.pe hb.pe hc.pe hm, fun N F H σ ρ P Q R q k => by
  refine ha.le N F H σ ρ _ _ R q fun x v F1 H1 ρ1 q1 s1 R1 r1 => ?_
  refine hb.le N F1 H1 σ ρ1 _ _ R1 q1 fun y u F2 H2 ρ2 q2 s2 R2 r2 => ?_
  obtain ⟨e, q2⟩ := q2
  subst e
  refine l N F2 H2 σ ρ2 x y v u _ _ R2 (r1.mono s2) r2 q2 fun z w F3 H3 p st rr => ?_
  split at p
  · refine ⟨true, rr, ?_⟩
    rw [if_pos rfl]
    have R3 := R2.step st
    refine hc.le N F3 H3 σ ρ2 _ _ R3 p fun z2 w2 F4 H4 ρ4 q4 s4 R4 r4 => ?_
    obtain ⟨e, q4⟩ := q4
    subst e
    exact l' N F4 H4 σ ρ4 y z2 u w2 _ Q R4 ((r2.mono st.ff).mono s4) r4 q4 fun z w F5 H5 p st5 rr => k z w F5 H5 ρ4 p ((((s1.trans s2).trans st.ff).trans s4).trans st5.ff) (R4.step st5) rr
  · refine ⟨false, rr, ?_⟩
    rw [if_neg Bool.false_ne_true]
    exact k _ _ F3 H3 ρ2 p ((s1.trans s2).trans st.ff) (R2.step st) rfl
  · exact p.elim⟩

/-! ### tests -/
variable {tA tB' : TT} {dA dB' : DTT} {rest : List Expr}
def dTst (d : DTE) : DTT := fun ρ P => d ρ fun x ρ1 => match x with
  | .bl b => P b ρ1
  | _ => False
theorem dt_val {e : Expr} {t : TE} {d : DTE} (h : DE X e t d) (he : ∀ whole, isTrue e X.env whole = (do let v ← whole; standAt e.pos; holding [v] (truthy v)) := by intro _; rfl) : DT X e (tB t) (dTst d) := ⟨pt_val h.pe he, fun N F H σ ρ P Q R q k => by
  refine h.le N F H σ ρ _ _ R q fun x v F1 H1 ρ1 q1 s1 R1 r1 => ?_
  split at q1
  · exact ⟨_, r1, k _ F1 H1 ρ1 q1 s1 R1⟩
  · exact q1.elim⟩
theorem dt_cmp {op : CmpOp} {r : R2} {rd : D → D → (D → Prop) → Prop} (ho : OpR X (compareOp op) r) (l : LR X.kw r rd) (ha : DC X a ta da) (hb : DC X b tb db) (hm : behindInMarks op b = false := by first | exact nomark _ | rfl) :
    DT X (.Compare a [op] [b] pos) (tTest (tOp r ta tb)) (dTst (dOp rd da db)) := ⟨pt_cmpR ho ha.pe hb.pe hm, fun N F H σ ρ P Q R q k => by
  refine le_op l ha hb N F H σ ρ _ _ R q fun x v F1 H1 ρ1 q1 s1 R1 r1 => ?_
  split at q1
  · exact ⟨_, r1, k _ F1 H1 ρ1 q1 s1 R1⟩
  · exact q1.elim⟩
theorem dt_isN {j p'} (ha : DC X a ta da) : DT X (.Compare a [.Is] [.Constant .none j p'] pos) (tB (tIsN ta)) (dTst (dMapB isNonD da)) := ⟨pt_cmp (pc_isN ha.pe), fun N F H σ ρ P Q R q k =>
  ha.le N F H σ ρ _ _ R q fun x v F1 H1 ρ1 q1 s1 R1 r1 => ⟨_, congrArg V.bl (isNon_of (R1.opd r1)), k _ F1 H1 ρ1 q1 s1 R1⟩⟩
theorem dt_notN {j p'} (ha : DC X a ta da) : DT X (.Compare a [.IsNot] [.Constant .none j p'] pos) (tB (tNotN ta)) (dTst (dMapB (fun x => !isNonD x) da)) := ⟨pt_cmp (pc_notN ha.pe), fun N F H σ ρ P Q R q k =>
  ha.le N F H σ ρ _ _ R q fun x v F1 H1 ρ1 q1 s1 R1 r1 => ⟨_, congrArg (fun z => V.bl (!z)) (isNon_of (R1.opd r1)), k _ F1 H1 ρ1 q1 s1 R1⟩⟩
def dAnd (d u : DTT) : DTT := fun ρ P => d ρ fun b ρ1 => (b = true → u ρ1 P) ∧ (b = false → P false ρ1)
def dOr (d u : DTT) : DTT := fun ρ P => d ρ fun b ρ1 => (b = true → P true ρ1) ∧ (b = false → u ρ1 P)
def dNot (d : DTT) : DTT := fun ρ P => d ρ fun b ρ1 => P (!b) ρ1
theorem dw_and1 (h : DT X a tA dA) : DW X (.BoolOp .And [a] pos) tA dA := ⟨pw_and1 h.pt, h.lt⟩
theorem dw_or1 (h : DT X a tA dA) : DW X (.BoolOp .Or [a] pos) tA dA := ⟨pw_or1 h.pt, h.lt⟩
theorem dw_and (h : DT X a tA dA) (g : DW X (.BoolOp .And (b :: rest) pos) tB' dB') : DW X (.BoolOp .And (a :: b :: rest) pos) (tAnd tA tB') (dAnd dA dB') := ⟨pw_and h.pt g.pw, fun N F H σ ρ P Q R q k => by
  refine h.lt N F H σ ρ _ _ R q fun b F1 H1 ρ1 q1 s1 R1 => ?_
  cases b with
  | true => rw [if_pos rfl]; exact g.lt N F1 H1 σ ρ1 _ _ R1 (q1.1 rfl) fun b F2 H2 ρ2 q2 s2 R2 => k b F2 H2 ρ2 q2 (s1.trans s2) R2
  | false => rw [if_neg Bool.false_ne_true]; exact k _ F1 H1 ρ1 (q1.2 rfl) s1 R1⟩
theorem dw_or (h : DT X a tA dA) (g : DW X (.BoolOp .Or (b :: rest) pos) tB' dB') : DW X (.BoolOp .Or (a :: b :: rest) pos) (tOr tA tB') (dOr dA dB') := ⟨pw_or h.pt g.pw, fun N F H σ ρ P Q R q k => by
  refine h.lt N F H σ ρ _ _ R q fun b F1 H1 ρ1 q1 s1 R1 => ?_
  cases b with
  | true => rw [if_pos rfl]; exact k _ F1 H1 ρ1 (q1.1 rfl) s1 R1
  | false => rw [if_neg Bool.false_ne_true]; exact g.lt N F1 H1 σ ρ1 _ _ R1 (q1.2 rfl) fun b F2 H2 ρ2 q2 s2 R2 => k b F2 H2 ρ2 q2 (s1.trans s2) R2⟩
theorem dt_not (h : DT X a tA dA) : DT X (.UnaryOp .Not a pos) (tNot tA) (dNot dA) := ⟨pt_not h.pt, fun N F H σ ρ P Q R q k => h.lt N F H σ ρ _ _ R q fun b F1 H1 ρ1 q1 s1 R1 => k _ F1 H1 ρ1 q1 s1 R1⟩
/-- .. as values -/
def dAndV (d u : DTE) : DTE := fun ρ P => d ρ fun x ρ1 => match x with
  | .bl b => (b = true → u ρ1 P) ∧ (b = false → P (.bl false) ρ1)
  | _ => False
def dOrV (d u : DTE) : DTE := fun ρ P => d ρ fun x ρ1 => match x with
  | .bl b => (b = true → P (.bl true) ρ1) ∧ (b = false → u ρ1 P)
  | _ => False
def dNotV (d : DTE) : DTE := fun ρ P => d ρ fun x ρ1 => match x with
  | .bl b => P (.bl (!b)) ρ1
  | _ => False
theorem de_one {op} {t : TE} {d : DTE} (h : DE X a t d) : DE X (.BoolOp op [a] pos) t d := ⟨pe_one h.pe, h.le⟩
theorem de_and (ha : DE X a ta da) (hb : DE X (.BoolOp .And (b :: rest) pos) tb db) : DE X (.BoolOp .And (a :: b :: rest) pos) (tAndV ta tb) (dAndV da db) := ⟨pe_and ha.pe hb.pe, fun N F H σ ρ P Q R q k => by
  refine ha.le N F H σ ρ _ _ R q fun x v F1 H1 ρ1 q1 s1 R1 r1 => ?_
  split at q1
  · rename_i b
    refine ⟨b, r1, ?_⟩
    cases b with
    | true => rw [if_pos rfl]; exact hb.le N F1 H1 σ ρ1 _ _ R1 (q1.1 rfl) fun x v F2 H2 ρ2 q2 s2 R2 r2 => k x v F2 H2 ρ2 q2 (s1.trans s2) R2 r2
    | false => rw [if_neg Bool.false_ne_true]; exact k _ _ F1 H1 ρ1 (q1.2 rfl) s1 R1 rfl
  · exact q1.elim⟩
theorem de_or (ha : DE X a ta da) (hb : DE X (.BoolOp .Or (b :: rest) pos) tb db) : DE X (.BoolOp .Or (a :: b :: rest) pos) (tOrV ta tb) (dOrV da db) := ⟨pe_or ha.pe hb.pe, fun N F H σ ρ P Q R q k => by
  refine ha.le N F H σ ρ _ _ R q fun x v F1 H1 ρ1 q1 s1 R1 r1 => ?_
  split at q1
  · rename_i b
    refine ⟨b, r1, ?_⟩
    cases b with
    | true => rw [if_pos rfl]; exact k _ _ F1 H1 ρ1 (q1.1 rfl) s1 R1 rfl
    | false => rw [if_neg Bool.false_ne_true]; exact hb.le N F1 H1 σ ρ1 _ _ R1 (q1.2 rfl) fun x v F2 H2 ρ2 q2 s2 R2 r2 => k x v F2 H2 ρ2 q2 (s1.trans s2) R2 r2
  · exact q1.elim⟩
theorem de_not (ha : DE X a ta da) : DE X (.UnaryOp .Not a pos) (tNotV ta) (dNotV da) := ⟨pe_not ha.pe, fun N F H σ ρ P Q R q k => by
  refine ha.le N F H σ ρ _ _ R q fun x v F1 H1 ρ1 q1 s1 R1 r1 => ?_
  split at q1
  · exact ⟨_, r1, k _ _ F1 H1 ρ1 q1 s1 R1 rfl⟩
  · exact q1.elim⟩
def dIf (d : DTT) (u w : DTE) : DTE := fun ρ P => d ρ fun b ρ1 => (b = true → u ρ1 P) ∧ (b = false → w ρ1 P)
theorem de_if (hc : DT X c tA dA) (ha : DE X a ta da) (hb : DE X b tb db) : DE X (.IfExp c a b pos) (tIf tA ta tb) (dIf dA da db) := ⟨pe_ifExp hc.pt ha.pe hb.pe, fun N F H σ ρ P Q R q k => by
  refine hc.lt N F H σ ρ _ _ R q fun b F1 H1 ρ1 q1 s1 R1 => ?_
  cases b with
  | true => rw [if_pos rfl]; exact ha.le N F1 H1 σ ρ1 _ _ R1 (q1.1 rfl) fun x v F2 H2 ρ2 q2 s2 R2 r2 => k x v F2 H2 ρ2 q2 (s1.trans s2) R2 r2
  | false => rw [if_neg Bool.false_ne_true]; exact hb.le N F1 H1 σ ρ1 _ _ R1 (q1.2 rfl) fun x v F2 H2 ρ2 q2 s2 R2 r2 => k x v F2 H2 ρ2 q2 (s1.trans s2) R2 r2⟩

/-! ### arguments, displays, calls -/
def dNil : DTA := fun ρ P => P [] ρ
def dCons (d : DTE) (u : DTA) : DTA := fun ρ P => d ρ fun x ρ1 => u ρ1 fun xs ρ2 => P (x :: xs) ρ2
def bNil : DTB := fun _ P => P []
def bCons (d : DTE) (u : DTB) : DTB := fun ρ P => d ρ fun x ρ1 => ρ1 = ρ ∧ u ρ fun xs => P (x :: xs)
variable {e : Expr} {es : List Expr} {te : TE} {de : DTE} {t : TA} {u : DTA} {ub : DTB}
theorem da_nil : DA X [] tNil dNil := ⟨pa_nil, fun _ F H _ ρ _ _ R q k => k _ _ F H ρ q (.refl _) R rfl⟩
theorem da_cons (h : DE X e te de) (g : DA X es t u) (hs : starEach (e :: es) X.env = (false, eval e X.env) :: starEach es X.env := by rfl) : DA X (e :: es) (tCons te t) (dCons de u) := ⟨pa_cons h.pe g.pa hs, fun N F H σ ρ P Q R q k => by
  refine h.le N F H σ ρ _ _ R q fun x v F1 H1 ρ1 q1 s1 R1 r1 => ?_
  refine g.la N F1 H1 σ ρ1 _ _ R1 q1 fun xs vs F2 H2 ρ2 q2 s2 R2 r2 => ?_
  exact k _ _ F2 H2 ρ2 q2 (s1.trans s2) R2 (.cons (r1.mono s2) r2)⟩
theorem db_nil : DB X [] tNil bNil := ⟨pa_nil, fun _ F H _ ρ _ _ R q k => k _ _ F H q (.refl _) R rfl⟩
theorem db_cons (h : DC X e te de) (g : DB X es t ub) (hs : starEach (e :: es) X.env = (false, eval e X.env) :: starEach es X.env := by rfl) : DB X (e :: es) (tCons te t) (bCons de ub) := ⟨pa_cons h.pe g.pa hs, fun N F H σ ρ P Q R q k => by
  refine h.le N F H σ ρ _ _ R q fun x v F1 H1 ρ1 q1 s1 R1 r1 => ?_
  obtain ⟨e1, q1⟩ := q1
  subst e1
  refine g.la N F1 H1 σ ρ1 _ _ R1 q1 fun xs vs F2 H2 q2 s2 R2 r2 => ?_
  exact k _ _ F2 H2 q2 (s1.trans s2) R2 ⟨_, _, rfl, r1.mono s2, r2⟩⟩
def dTup (u : DTA) : DTE := fun ρ P => u ρ fun xs ρ1 => xs.length ≤ sizeLine ∧ P (.tup xs) ρ1
def dLst (u : DTA) : DTE := fun ρ P => u ρ fun xs ρ1 => xs.length ≤ sizeLine ∧ P (.lst xs) ρ1
theorem rep_tup {K : KW} {F H : Hp} {xs : List D} {vs : List V} {p : Addr} (s : Sub F H) (r : Reps K F xs vs) (hl : xs.length ≤ sizeLine) (hp : H p = none) : Rep K (upd F p (.tup vs)) (.tup xs) (.ref p) :=
  ⟨p, vs, rfl, SqT.of upd_same, by rw [← r.length]; exact hl, r.mono (same_upd (s.free hp))⟩
theorem rep_lst {K : KW} {F H : Hp} {xs : List D} {vs : List V} {p : Addr} (s : Sub F H) (r : Reps K F xs vs) (hl : xs.length ≤ sizeLine) (hp : H p = none) : Rep K (upd F p (.lst vs)) (.lst xs) (.ref p) :=
  ⟨p, vs, rfl, SqL.of upd_same, by rw [← r.length]; exact hl, r.mono (same_upd (s.free hp))⟩
theorem de_tup {x1} (h : DA X es t u) : DE X (.Tuple es x1 pos) (tTup t) (dTup u) := ⟨pe_tup h.pa, fun N F H σ ρ P Q R q k => by
  refine h.la N F H σ ρ _ _ R q fun xs vs F1 H1 ρ1 q1 s1 R1 r1 => ?_
  refine ⟨by rw [← r1.length]; exact q1.1, fun p hp => ?_⟩
  have st := Stp.laid R1.sub (o := .tup vs) hp
  exact k _ _ _ _ ρ1 q1.2 (s1.trans st.ff) (R1.step st) (rep_tup R1.sub r1 q1.1 hp)⟩
theorem de_lst (h : DA X es t u) : DE X (.List es pos) (tLst t) (dLst u) := ⟨pe_lst h.pa, fun N F H σ ρ P Q R q k => by
  refine h.la N F H σ ρ _ _ R q fun xs vs F1 H1 ρ1 q1 s1 R1 r1 => ?_
  refine ⟨by rw [← r1.length]; exact q1.1, fun p hp => ?_⟩
  have st := Stp.laid R1.sub (o := .lst vs) hp
  exact k _ _ _ _ ρ1 q1.2 (s1.trans st.ff) (R1.step st) (rep_lst R1.sub r1 q1.1 hp)⟩
/-- a call of a known value by one of data -/
def LC (K : KW) (r : List V → Hp → VK → Prop) (rd : List D → (D → Prop) → Prop) : Prop := ∀ (N : En) (F H : Hp) (σ : L2.St) (ρ : Rho) (xs : List D) (vs : List V) (P : D → Prop) (Q : VK), RelS K N F H σ ρ → Opds K F σ ρ xs vs → rd xs P →
  (∀ z w F' H', P z → Stp F H F' H' → Rep K F' z w → Q w H') → r vs H Q
def dCB (rd : List D → (D → Prop) → Prop) (ub : DTB) : DTE := fun ρ P => ub ρ fun xs => rd xs fun z => P z ρ
theorem le_cb {r : List V → Hp → VK → Prop} {rd : List D → (D → Prop) → Prop} (l : LC X.kw r rd) (h : DB X es t ub) (N : En) (F H : Hp) (σ : L2.St) (ρ : Rho) (P : D → Rho → Prop) (Q : VK) (R : RelS X.kw N F H σ ρ) (q : dCB rd ub ρ P)
    (k : ∀ x v F' H' ρ', P x ρ' → Same F F' → RelS X.kw N F' H' σ ρ' → Rep X.kw F' x v → Q v H') : tCB r t σ H Q := by
  refine h.la N F H σ ρ _ _ R q fun xs vs F1 H1 q1 s1 R1 r1 => ?_
  exact l N F1 H1 σ ρ xs vs _ Q R1 r1 q1 fun z w F2 H2 p st rr => k z w F2 H2 ρ p (s1.trans st.ff) (R1.step st) rr
theorem de_cb {x : Str} {p : Pos} {id : String} {r : List V → Hp → VK → Prop} {rd : List D → (D → Prop) → Prop} (hc : CallR X (.builtin id) r) (l : LC X.kw r rd) (hg : Gl X x) (hm : X.mg x = none) (hv : bootBuiltins x = some (.builtin id)) (h : DB X (e :: es) t ub)
    (hn : x ≠ "__name__" := by decide) (hdb : (x == ("__debug__" : Str)) = false := by decide) (he : starEach (e :: es) X.env = (false, eval e X.env) :: starEach es X.env := by rfl) (hpl : (backTo pos (starEach es X.env)).any (·.1) = false := by rfl) :
    DE X (.Call (.Name x p) (e :: es) [] pos) (tCB r t) (dCB rd ub) := ⟨pe_callB hc hg hm hv h.pa hn hdb he hpl, le_cb l h⟩
theorem de_cty {x : Str} {p : Pos} {T : String} {r : List V → Hp → VK → Prop} {rd : List D → (D → Prop) → Prop} (hc : CallR X (.type T) r) (l : LC X.kw r rd) (hg : Gl X x) (hm : X.mg x = none) (hv : bootBuiltins x = some (.type T)) (h : DB X (e :: es) t ub)
    (hn : x ≠ "__name__" := by decide) (hdb : (x == ("__debug__" : Str)) = false := by decide) (he : starEach (e :: es) X.env = (false, eval e X.env) :: starEach es X.env := by rfl) (hpl : (backTo pos (starEach es X.env)).any (·.1) = false := by rfl) :
    DE X (.Call (.Name x p) (e :: es) [] pos) (tCB r t) (dCB rd ub) := ⟨pe_callTy hc hg hm hv h.pa hn hdb he hpl, le_cb l h⟩
/-- what a def promises, over data -/
abbrev SD := List D → (D → Prop) → Prop
def spD (K : KW) (S : SD) : Sp := fun vs H Q _ => ∃ F ds P, LamX.Tabs TabsT.T H ∧ Sub F H ∧ Reps K F ds vs ∧ S ds P ∧ ∀ x v F' H', P x → Stp F H F' H' → Rep K F' x v → Q v H'
def flatV : D → V
  | .bl b => .bl b
  | .int i => .int i
  | .str x => .str x
  | .rf a => .ref a
  | _ => .non
def isFlat : D → Bool
  | .non => true
  | .bl _ => true
  | .int _ => true
  | .str _ => true
  | .rf _ => true
  | _ => false
theorem rep_flat {K : KW} {F : Hp} : ∀ {d : D}, isFlat d = true → Rep K F d (flatV d)
  | .non, _ => rfl
  | .bl _, _ => rfl
  | .int _, _ => rfl
  | .str _, _ => rfl
  | .rf _, _ => rfl
theorem reps_flat {K : KW} {F : Hp} : ∀ {ds : List D}, ds.all isFlat = true → Reps K F ds (ds.map flatV)
  | [], _ => rfl
  | d :: ds, h => by
    rw [List.all_cons, Bool.and_eq_true] at h
    exact .cons (rep_flat h.1) (reps_flat h.2)
/-- a def known by its name: its level, promise, defaults -/
structure Kn (P : Program) (w : World) (K : PySem.W.Frag) (mg : Str → Option Value) (base : Heap) (k : Nat) (x : Str) (S : SD) (dd : List D) : Prop where
  ex : ∃ (f : Addr) (fd : FuncData) (ps : List Str) (ds : List Value), FnOk P w K mg base CX0 k f fd ps (spD ⟨K, w⟩ S) ∧ mg x = some (.ref f) ∧ PySem.W.keepIn K (.ref f) = true ∧ Binds K fd ps ds ∧ Vals (dd.map flatV) ds
  fl : dd.all isFlat = true
def dCall (S : SD) (dd : List D) (u : DTA) : DTE := fun ρ P => u ρ fun xs ρ1 => S (xs ++ dd) fun z => P z ρ1
theorem le_call {S : SD} {dd : List D} {E : XK} (hd : dd.all isFlat = true) (h : DA X es t u) (N : En) (F H : Hp) (σ : L2.St) (ρ : Rho) (P : D → Rho → Prop) (Q : VK) (R : RelS X.kw N F H σ ρ) (q : dCall S dd u ρ P)
    (k : ∀ x v F' H' ρ', P x ρ' → Same F F' → RelS X.kw N F' H' σ ρ' → Rep X.kw F' x v → Q v H') : tCall (spD X.kw S) (dd.map flatV) E t σ H Q := by
  refine h.la N F H σ ρ _ _ R q fun xs vs F1 H1 ρ1 q1 s1 R1 r1 => ?_
  exact ⟨F1, xs ++ dd, _, R1.tb, R1.sub, r1.append (reps_flat hd), q1, fun x v F2 H2 p st rr => k x v F2 H2 ρ1 p (s1.trans st.ff) (R1.step st) rr⟩
theorem de_call {x : Str} {p : Pos} {k j : Nat} {S : SD} {dd : List D} (c : Kn X.prog X.w X.K X.mg X.base k x S dd) (hr : Room j X.A) (hk : k ≤ j) (hg : Gl X x) (h : DA X (e :: es) t u)
    (hdb : (x == ("__debug__" : Str)) = false := by decide) (he : starEach (e :: es) X.env = (false, eval e X.env) :: starEach es X.env := by rfl) (hpl : (backTo pos (starEach es X.env)).any (·.1) = false := by rfl) :
    DE X (.Call (.Name x p) (e :: es) [] pos) (tCall (spD X.kw S) (dd.map flatV) E0 t) (dCall S dd u) := by
  obtain ⟨f, fd, ps, ds, hf, hm, kp, hb, hv⟩ := c.ex
  exact ⟨pe_call hf (hr.mono hk) hg hm kp hb hv pass0 h.pa hdb he hpl, le_call c.fl h⟩
end
end Dc

namespace Dc
open PySem PySem.Spec
open PyProof.Rows L2
variable [TabsT]

/-! ### a value that is to be kept in a slot: shared, or new and the def's own -/
/-- the entry, an object more standing -/
abbrev En.plus (N : En) (a : Addr) (o : HO) : En := { N with H0 := upd N.H0 a o }
def Pend (K : KW) (N : En) (F H : Hp) (σ : L2.St) (ρ : Rho) : Sl → V → Prop
  | .no, _ => False
  | .my _ _, _ => False
  | .sh x, v => RelS K N F H σ ρ ∧ Rep K F x v
  | .ow x, v => ∃ a o, v = .ref a ∧ N.H0 a = none ∧ F a = none ∧ H a = some o ∧ RelS K (N.plus a o) F H σ ρ ∧ Shape K F a x o
section
variable {K : KW} {F F' H H' : Hp} {N : En} {σ : L2.St} {ρ : Rho}
theorem Shape.relO {own : Addr → Option Nat} {i : Nat} {a : Addr} (w : own a = some i) {x : D} {o : HO} (s : Shape K F a x o) (h : H a = some o) : RelO1 K F H own i x (some (.ref a)) := ⟨a, o, rfl, w, h, s⟩
theorem RelO1.own_of {own own' : Addr → Option Nat} {i : Nat} (h : ∀ b, own b = some i → own' b = some i) {x : D} {o : Option V} : RelO1 K F H own i x o → RelO1 K F H own' i x o :=
  fun ⟨a, u, e, w, r⟩ => ⟨a, u, e, h a w, r⟩
theorem RelSl.own_of {own own' : Addr → Option Nat} {i : Nat} (h : ∀ b, own b = some i → own' b = some i) : ∀ {x : Sl} {o : Option V}, RelSl K F H own i x o → RelSl K F H own' i x o
  | .no, _, _ => trivial
  | .sh _, _, r => r
  | .ow _, _, r => RelO1.own_of h r
  | .my _ _, _, r => ⟨r.1, RelO1.own_of h r.2⟩
/-- an object that stands aside: it stays -/
theorem RelS.plus_at {a : Addr} {o : HO} (R : RelS K (N.plus a o) F H σ ρ) (n : ∀ ob u, (a, ob, u) ∉ N.L) (nt : NT o := by intro _ h; cases h) : H a = some o := by
  rcases R.old a o upd_same nt with q | ⟨ob, q⟩
  · exact q
  · exact absurd q (n _ _)
theorem RelS.fz_of {a : Addr} {o : HO} {x : D} (R : RelS K (N.plus a o) F H σ ρ) (sh : Shape K F a x o) : ∀ b ob u, H b = some (.frz ob u) → N.H0 b = some (.frz ob u) ∨ (b, ob, u) ∈ N.L := fun b ob u e => by
  rcases R.fz b ob u e with q | q
  · by_cases hb : b = a
    · subst hb
      rw [show (N.plus b o).H0 b = some o from upd_same] at q
      cases q
      exact absurd sh Shape.nofrz
    · rw [show (N.plus a o).H0 b = N.H0 b from upd_ne hb] at q
      exact .inl q
  · exact .inr q
/-- the stored slot -/
theorem RelS.store {i : Nat} {s : Sl} {v : V} (R : Pend K N F H σ ρ s v) (hi : i < σ.length) : RelS K N F H (σ.set i (some v)) (ρ.set i s) := by
  have slot : ∀ {j : Nat} {x : Sl}, (ρ.set i s)[j]? = some x → (j = i ∧ x = s) ∨ (j ≠ i ∧ ρ[j]? = some x) := fun {j x} e => by
    by_cases hj : j = i
    · subst hj
      by_cases hl : j < ρ.length
      · rw [List.getElem?_set_self hl] at e; exact .inl ⟨rfl, (Option.some.inj e).symm⟩
      · rw [List.getElem?_eq_none (by simpa using hl)] at e; cases e
    · rw [List.getElem?_set_ne (Ne.symm hj)] at e; exact .inr ⟨hj, e⟩
  cases s with
  | no => exact R.elim
  | my _ _ => exact R.elim
  | sh x =>
    obtain ⟨R, r⟩ := R
    obtain ⟨own, w1, w2⟩ := R.sl
    refine ⟨R.sub, R.frz0, R.new, R.old, R.nn, R.tb, R.tt, R.lk, R.fz, own, w1, fun j y e => ?_⟩
    rcases slot e with ⟨rfl, rfl⟩ | ⟨hj, e⟩
    · exact ⟨_, List.getElem?_set_self hi, v, rfl, r⟩
    · obtain ⟨o, e1, r1⟩ := w2 j y e
      exact ⟨o, by rw [List.getElem?_set_ne (Ne.symm hj)]; exact e1, r1⟩
  | ow x =>
    obtain ⟨a, o, rfl, h0, hF, hH, R, sh⟩ := R
    obtain ⟨own, w1, w2⟩ := R.sl
    have na : ∀ b j, own b = some j → b ≠ a := fun b j e z => by
      subst z
      have q := (w1 b j e).2.1
      rw [show (N.plus b o).H0 b = some o from upd_same] at q; cases q
    have h0' : ∀ b, (upd N.H0 a o) b = none → N.H0 b = none := fun b e => by
      by_cases hb : b = a
      · rw [hb]; exact h0
      · rw [upd_ne hb] at e; exact e
    refine ⟨R.sub, R.frz0, fun b u e => ?_, fun b u e nt => ?_, fun b e => h0' b (R.nn b e), R.tb, fun b ps e => R.tt b ps (by show upd N.H0 a o b = _; rw [upd_ne fun z => by rw [z, h0] at e; cases e]; exact e), R.lk, R.fz_of sh, fun b => if b = a then some i else own b, fun b j e => ?_, fun j y e => ?_⟩
    · exact (R.new b u e).imp id (h0' b)
    · refine R.old b u ?_ nt
      have hb : b ≠ a := fun z => by rw [z, h0] at e; cases e
      show (upd N.H0 a o) b = some u
      rw [upd_ne hb]; exact e
    · by_cases hb : b = a
      · subst hb; exact ⟨hF, h0, by rw [hH]; simp⟩
      · simp only [hb, if_false] at e
        obtain ⟨q1, q2, q3⟩ := w1 b j e
        exact ⟨q1, h0' b q2, q3⟩
    · rcases slot e with ⟨rfl, rfl⟩ | ⟨hj, e⟩
      · exact ⟨_, List.getElem?_set_self hi, Shape.relO (by simp) sh hH⟩
      · obtain ⟨u, e1, r1⟩ := w2 j y e
        exact ⟨u, by rw [List.getElem?_set_ne (Ne.symm hj)]; exact e1, r1.own_of fun b eb => by simp [na b j eb, eb]⟩
/-- a new object laid aside -/
theorem Pend.laid {x : D} {o : HO} {p : Addr} (R : RelS K N F H σ ρ) (sh : Shape K F p x o) (hp : H p = none) : Pend K N F (upd H p o) σ ρ (.ow x) (.ref p) := by
  have h0 := R.fresh hp
  have nz : ∀ b ob u, upd H p o b = some (.frz ob u) → H b = some (.frz ob u) := fun b ob u e => by
    by_cases hb : b = p
    · subst hb; rw [upd_same] at e; cases e; exact absurd sh Shape.nofrz
    · rw [upd_ne hb] at e; exact e
  have R1 := R.step (F' := F) (H' := upd H p o) ⟨.of (same_upd hp), .refl _, R.sub.trans_same (same_upd hp), fun _ _ e => .inl e, nz, fun a e => (same_upd hp).free e, fun t => t.ext (same_upd hp), fun a ps e => ⟨ps, same_upd hp _ _ e⟩⟩
  obtain ⟨own, w1, w2⟩ := R.sl
  obtain ⟨_, _, w3⟩ := R1.sl
  refine ⟨p, o, rfl, h0, R.sub.free hp, upd_same, ⟨R1.sub, R1.frz0, fun a u e => ?_, fun a u e nt => ?_, fun a e => ?_, R1.tb, fun a ps e => ?_, R1.lk, fun b ob u e => ?_, own, fun a i e => ?_, fun i y e => ?_⟩, sh⟩
  · by_cases ha : a = p
    · subst ha; rw [R.sub.free hp] at e; cases e
    · exact (R1.new a u e).imp id fun z => by show upd N.H0 p o a = none; rw [upd_ne ha]; exact z
  · by_cases ha : a = p
    · subst ha
      rw [show (N.plus a o).H0 a = some o from upd_same] at e; cases e
      exact .inl upd_same
    · rw [show (N.plus p o).H0 a = N.H0 a from upd_ne ha] at e
      exact R1.old a u e nt
  · have ha : a ≠ p := fun z => by rw [z, upd_same] at e; cases e
    show upd N.H0 p o a = none
    rw [upd_ne ha]
    exact R1.nn a e
  · have e : upd N.H0 p o a = some (.tbl ps) := e
    by_cases ha : a = p
    · rw [ha, upd_same] at e; cases e; exact absurd rfl (sh.nt _)
    · rw [upd_ne ha] at e; exact R1.tt a ps e
  · have hb : b ≠ p := fun z => by
      have := nz b ob u e
      rw [z, hp] at this; cases this
    exact (R1.fz b ob u e).imp (fun z => by show upd N.H0 p o b = _; rw [upd_ne hb]; exact z) id
  · obtain ⟨q1, q2, q3⟩ := w1 a i e
    have ha : a ≠ p := fun z => q3 (by rw [z]; exact hp)
    exact ⟨q1, by show upd N.H0 p o a = none; rw [upd_ne ha]; exact q2, by rw [upd_ne ha]; exact q3⟩
  · obtain ⟨u, e1, r1⟩ := w2 i y e
    refine ⟨u, e1, r1.step ⟨.of (same_upd hp), .refl _, R.sub.trans_same (same_upd hp), fun _ _ e => .inl e, nz, fun a e => (same_upd hp).free e, fun t => t.ext (same_upd hp), fun a ps e => ⟨ps, same_upd hp _ _ e⟩⟩⟩
end

abbrev DTV := Rho → (Sl → Rho → Prop) → Prop
structure DV (X : Cx) (e : Expr) (t : TE) (d : DTV) : Prop where
  pe : PE X e t
  le : ∀ (N : En) (F H : Hp) (σ : L2.St) (ρ : Rho) (P : Sl → Rho → Prop) (Q : VK), RelS X.kw N F H σ ρ → d ρ P →
    (∀ x v F' H' ρ', P x ρ' → Same F F' → Pend X.kw N F' H' σ ρ' x v → Q v H') → t σ H Q
def vSh (d : DTE) : DTV := fun ρ P => d ρ fun x ρ1 => P (.sh x) ρ1
def vOw (d : DTE) : DTV := fun ρ P => d ρ fun x ρ1 => P (.ow x) ρ1
section
variable {X : Cx} {pos : Pos} {e : Expr} {es : List Expr} {te : TE} {de : DTE} {t : TA} {u : DTA}
theorem dv_of (h : DE X e te de) : DV X e te (vSh de) := ⟨h.pe, fun N F H σ ρ P Q R q k => h.le N F H σ ρ _ _ R q fun x v F' H' ρ' p s R' r => k _ v F' H' ρ' p s ⟨R', r⟩⟩
theorem dv_lst (h : DA X es t u) : DV X (.List es pos) (tLst t) (vOw (dLst u)) := ⟨pe_lst h.pa, fun N F H σ ρ P Q R q k => by
  refine h.la N F H σ ρ _ _ R q fun xs vs F1 H1 ρ1 q1 s1 R1 r1 => ?_
  refine ⟨by rw [← r1.length]; exact q1.1, fun p hp => ?_⟩
  exact k _ _ _ _ ρ1 q1.2 s1 (.laid R1 ⟨vs, rfl, by rw [← r1.length]; exact q1.1, r1⟩ hp)⟩
theorem dv_dK : DV X (.Dict [] [] pos) tDNewK (vOw (dK1 (.dk [] []))) := ⟨pe_dnewK, fun N F H σ ρ P Q R q k p hp => k _ _ _ _ ρ q (.refl _) (.laid R ⟨[], rfl, rfl, rfl⟩ hp)⟩
end

/-! ### statements -/
structure DEnds where
  nx : Rho → Prop
  rt : D → Rho → Prop
  bk : Rho → Prop := fun _ => False
  ct : Rho → Prop := fun _ => False
abbrev DTS := DEnds → Rho → Prop
structure Hit (K : KW) (N : En) (F : Hp) (n : Nat) (D : DEnds) (E : Ends) : Prop where
  nx : ∀ F' H' σ' ρ', D.nx ρ' → Same F F' → RelS K N F' H' σ' ρ' → σ'.length = n → E.nx σ' H'
  rt : ∀ x v F' H' σ' ρ', D.rt x ρ' → Same F F' → RelS K N F' H' σ' ρ' → Rep K F' x v → E.rt v H'
  bk : ∀ F' H' σ' ρ', D.bk ρ' → Same F F' → RelS K N F' H' σ' ρ' → σ'.length = n → E.bk σ' H'
  ct : ∀ F' H' σ' ρ', D.ct ρ' → Same F F' → RelS K N F' H' σ' ρ' → σ'.length = n → E.ct σ' H'
theorem Hit.mono {K : KW} {N : En} {F F1 : Hp} {n : Nat} {D : DEnds} {E : Ends} (h : Hit K N F n D E) (s : Same F F1) : Hit K N F1 n D E :=
  ⟨fun F' H' σ' ρ' p q => h.nx F' H' σ' ρ' p (s.trans q), fun x v F' H' σ' ρ' p q => h.rt x v F' H' σ' ρ' p (s.trans q), fun F' H' σ' ρ' p q => h.bk F' H' σ' ρ' p (s.trans q), fun F' H' σ' ρ' p q => h.ct F' H' σ' ρ' p (s.trans q)⟩
structure DS (X : Cx) (st : Stmt) (t : TS) (d : DTS) : Prop where
  ps : PS X st t
  ls : ∀ (N : En) (F H : Hp) (σ : L2.St) (ρ : Rho) (D : DEnds) (E : Ends), RelS X.kw N F H σ ρ → X.N.length = σ.length → d D ρ → Hit X.kw N F σ.length D E → t E σ H
structure DSs (X : Cx) (st : List Stmt) (t : TS) (d : DTS) : Prop where
  ps : PSs X st t
  ls : ∀ (N : En) (F H : Hp) (σ : L2.St) (ρ : Rho) (D : DEnds) (E : Ends), RelS X.kw N F H σ ρ → X.N.length = σ.length → d D ρ → Hit X.kw N F σ.length D E → t E σ H
section
variable {X : Cx} {pos : Pos} {st : Stmt} {rest : List Stmt} {t u : TS} {d w : DTS} {e : Expr} {te : TE} {de : DTE} {dv : DTV}
def sNext : DTS := fun D ρ => D.nx ρ
def sSeq (d w : DTS) : DTS := fun D ρ => d { D with nx := w D } ρ
theorem ds_nil : DSs X [] tNext sNext := ⟨pss_nil, fun N F H σ ρ D E R _ q h => h.nx F H σ ρ q (.refl _) R rfl⟩
theorem ds_one (h : DS X st t d) : DSs X [st] t d := ⟨pss_one h.ps, h.ls⟩
theorem ds_cons (h : DS X st t d) (g : DSs X rest u w) : DSs X (st :: rest) (tSeq t u) (sSeq d w) := ⟨pss_cons h.ps g.ps, fun N F H σ ρ D E R hl q k =>
  h.ls N F H σ ρ { D with nx := w D } { E with nx := u E } R hl q ⟨fun F' H' σ' ρ' p s R' l => g.ls N F' H' σ' ρ' D E R' (hl.trans l.symm) p (by rw [l]; exact k.mono s), k.rt, k.bk, k.ct⟩⟩
def sPass : DTS := sNext
theorem ds_pass : DS X (.Pass pos) tNext sNext := ⟨ps_pass, fun N F H σ ρ D E R _ q h => h.nx F H σ ρ q (.refl _) R rfl⟩
def sBrk : DTS := fun D ρ => D.bk ρ
def sCnt : DTS := fun D ρ => D.ct ρ
theorem ds_brk : DS X (.Break pos) tBreak sBrk := ⟨ps_break, fun N F H σ ρ D E R _ q h => h.bk F H σ ρ q (.refl _) R rfl⟩
theorem ds_cnt : DS X (.Continue pos) tCont sCnt := ⟨ps_continue, fun N F H σ ρ D E R _ q h => h.ct F H σ ρ q (.refl _) R rfl⟩
def sRet (de : DTE) : DTS := fun D ρ => de ρ D.rt
theorem ds_ret (h : DE X e te de) : DS X (.Return (some e) pos) (tRet te) (sRet de) := ⟨ps_ret h.pe, fun N F H σ ρ D E R _ q k => h.le N F H σ ρ _ _ R q fun x v F' H' ρ' p s R' r => k.rt x v F' H' σ ρ' p s R' r⟩
def sRetN : DTS := fun D ρ => D.rt .non ρ
theorem ds_retN : DS X (.Return none pos) tRetN sRetN := ⟨ps_retN, fun N F H σ ρ D E R _ q k => k.rt .non .non F H σ ρ q (.refl _) R rfl⟩
def sExpr (de : DTE) : DTS := fun D ρ => de ρ fun _ ρ1 => D.nx ρ1
theorem ds_expr (h : DE X e te de) (hs : swapsWith e none pos.line X.env = pure false := by rfl) : DS X (.Expr e pos) (tDrop te) (sExpr de) := ⟨ps_expr h.pe hs, fun N F H σ ρ D E R _ q k =>
  h.le N F H σ ρ _ _ R q fun x v F' H' ρ' p s R' r => k.nx F' H' σ ρ' p s R' rfl⟩
def sNever : DTS := fun _ _ => False
theorem ds_never : DS X st tNever sNever := ⟨ps_never, fun _ _ _ _ _ _ _ _ _ q _ => q.elim⟩
theorem dss_never {sts : List Stmt} : DSs X sts tNever sNever := ⟨pss_never, fun _ _ _ _ _ _ _ _ _ q _ => q.elim⟩
def sIf (c : DTT) (d w : DTS) : DTS := fun D ρ => c ρ fun b ρ1 => (b = true → d D ρ1) ∧ (b = false → w D ρ1)
theorem ds_if {c : Expr} {a b : List Stmt} {tc : TT} {dc : DTT} (hc : DT X c tc dc) (ha : DSs X a t d) (hb : DSs X b u w) : DS X (.If c a b pos) (tIfS tc t u) (sIf dc d w) := ⟨ps_if hc.pt ha.ps hb.ps, fun N F H σ ρ D E R hl q k => by
  refine hc.lt N F H σ ρ _ _ R q fun b F1 H1 ρ1 q1 s1 R1 => ?_
  cases b with
  | true => rw [if_pos rfl]; exact ha.ls N F1 H1 σ ρ1 D E R1 hl (q1.1 rfl) (k.mono s1)
  | false => rw [if_neg Bool.false_ne_true]; exact hb.ls N F1 H1 σ ρ1 D E R1 hl (q1.2 rfl) (k.mono s1)⟩
/-! targets -/
abbrev DTG := D → Rho → (Rho → Prop) → Prop
structure DG (X : Cx) (tg : Expr) (g : TG) (d : DTG) (is : List Nat) : Prop where
  pg : PG X tg g
  lg : ∀ (N : En) (F H : Hp) (σ : L2.St) (ρ : Rho) (x : D) (v : V) (P : Rho → Prop) (Q : L2.St → Hp → Prop), RelS X.kw N F H σ ρ → Rep X.kw F x v → d x ρ P →
    (∀ σ' ρ', P ρ' → RelS X.kw N F H σ' ρ' → σ'.length = σ.length → (∀ j, j ∉ is → σ'[j]? = σ[j]? ∧ ρ'[j]? = ρ[j]?) → Q σ' H) → g v σ H Q
def gSet (i : Nat) : DTG := fun x ρ P => i < ρ.length ∧ P (ρ.set i (.sh x))
theorem RelS.lt {K : KW} {N : En} {F H : Hp} {σ : L2.St} {ρ : Rho} (R : RelS K N F H σ ρ) {i : Nat} (h : i < ρ.length) : i < σ.length := by
  obtain ⟨own, _, w⟩ := R.sl
  obtain ⟨o, e, _⟩ := w i _ (List.getElem?_eq_getElem h)
  exact (List.getElem?_eq_some_iff.mp e).1
theorem dg_name (i : Nat) {x : Str} (hN : X.N.Nodup) (hi : X.N[i]? = some x := by rfl) (hx : Loc X.env.scope x := by first | exact Or.inl rfl | exact Or.inr rfl) (hf : X.fn x = true ∨ X.env.scope.names.lookup x = some .local := by first | exact .inl rfl | exact .inr rfl | assumption) :
    DG X (.Name x pos) (gName i) (gSet i) [i] := ⟨pg_name hN hi hx hf, fun N F H σ ρ y v P Q R r q k => by
  have hil : i < σ.length := R.lt q.1
  exact k _ _ q.2 (RelS.store (s := .sh y) ⟨R, r⟩ hil) (by simp) fun j hj => ⟨List.getElem?_set_ne (fun z => hj (by simp [z])), List.getElem?_set_ne (fun z => hj (by simp [z]))⟩⟩
abbrev DTGs := List D → Rho → (Rho → Prop) → Prop
structure DGs (X : Cx) (tg : List Expr) (g : TGs) (d : DTGs) (is : List Nat) : Prop where
  pg : PGs X tg g
  lg : ∀ (N : En) (F H : Hp) (σ : L2.St) (ρ : Rho) (x : List D) (v : List V) (P : Rho → Prop) (Q : L2.St → Hp → Prop), RelS X.kw N F H σ ρ → Reps X.kw F x v → d x ρ P →
    (∀ σ' ρ', P ρ' → RelS X.kw N F H σ' ρ' → σ'.length = σ.length → (∀ j, j ∉ is → σ'[j]? = σ[j]? ∧ ρ'[j]? = ρ[j]?) → Q σ' H) → g v σ H Q
def gsNil : DTGs := fun xs ρ P => match xs with
  | [] => P ρ
  | _ => False
def gsCons (d : DTG) (w : DTGs) : DTGs := fun xs ρ P => match xs with
  | x :: r => d x ρ fun ρ1 => w r ρ1 P
  | [] => False
theorem dgs_nil : DGs X [] gNil gsNil [] := ⟨pgs_nil, fun N F H σ ρ xs v P Q R r q k => by
  cases xs with
  | nil => exact ⟨r, k σ ρ q R rfl fun _ _ => ⟨rfl, rfl⟩⟩
  | cons x r => exact q.elim⟩
theorem dgs_cons {e : Expr} {es : List Expr} {g : TG} {gs : TGs} {d : DTG} {w : DTGs} {is js : List Nat} (h : DG X e g d is) (k : DGs X es gs w js) (hs : (assignEach (e :: es) X.env).map (·.2) = assign e X.env :: (assignEach es X.env).map (·.2) := by rfl) :
    DGs X (e :: es) (gCons g gs) (gsCons d w) (is ++ js) := ⟨pgs_cons h.pg k.pg hs, fun N F H σ ρ xs v P Q R r q kk => by
  cases xs with
  | nil => exact q.elim
  | cons x xr =>
    obtain ⟨v1, vr, e1, r1, r2⟩ := r
    refine ⟨v1, vr, e1, ?_⟩
    refine h.lg N F H σ ρ x v1 _ _ R r1 q fun σ1 ρ1 q1 R1 l1 s1 => ?_
    exact k.lg N F H σ1 ρ1 xr vr P Q R1 r2 q1 fun σ2 ρ2 q2 R2 l2 s2 => kk σ2 ρ2 q2 R2 (l2.trans l1) fun j hj => by
      rw [List.mem_append, not_or] at hj
      exact ⟨(s2 j hj.2).1.trans (s1 j hj.1).1, (s2 j hj.2).2.trans (s1 j hj.1).2⟩⟩
def gTupD (n : Nat) (w : DTGs) : DTG := fun x ρ P => match x with
  | .tup xs => xs.length = n ∧ w xs ρ P
  | _ => False
theorem dg_tup {es : List Expr} {k : Nat} {gs : TGs} {w : DTGs} {is : List Nat} {n : Nat} (hc : X.calm = true) (h : DGs X es gs w is) (hn : (assignEach es X.env).length = n := by rfl) (hst : (assignEach es X.env).findIdx? (·.1) = none := by rfl) :
    DG X (.Tuple es k pos) (gTup X.K n gs) (gTupD n w) is := ⟨pg_tup hc h.pg hn hst, fun N F H σ ρ x v P Q R r q k => by
  cases x with
  | tup xs =>
    obtain ⟨a, vs, e1, hq, _, rr⟩ := r
    exact ⟨a, vs, e1, R.sub.sqT hq, by rw [← rr.length]; exact q.1, h.lg N F H σ ρ xs vs P Q R rr q.2 k⟩
  | _ => exact q.elim⟩
/-! assignments -/
def sSet (i : Nat) (dv : DTV) : DTS := fun D ρ => dv ρ fun s ρ1 => D.nx (ρ1.set i s)
theorem ds_set (i : Nat) {x : Str} {p' : Pos} (hN : X.N.Nodup) (h : DV X e te dv) (hi : X.N[i]? = some x := by rfl) (hx : Loc X.env.scope x := by first | exact Or.inl rfl | exact Or.inr rfl) (hs : swapsWith e (some (.Name x p')) pos.line X.env = pure false := by rfl)
    (hf : X.fn x = true ∨ X.env.scope.names.lookup x = some .local := by first | exact .inl rfl | exact .inr rfl | assumption) : DS X (.Assign [.Name x p'] e pos) (tAsg te (gName i)) (sSet i dv) := ⟨ps_set hN hi hx h.pe hs hf, fun N F H σ ρ D E R hl q k => by
  have hil : i < σ.length := by rw [← hl]; exact (List.getElem?_eq_some_iff.mp hi).1
  exact h.le N F H σ ρ _ _ R q fun s v F1 H1 ρ1 q1 s1 R1 => k.nx F1 H1 _ _ q1 s1 (RelS.store R1 hil) (by simp)⟩
def sAsg (de : DTE) (dg : DTG) : DTS := fun D ρ => de ρ fun x ρ1 => dg x ρ1 D.nx
theorem ds_asg {tg : Expr} {g : TG} {dg : DTG} {is : List Nat} (h : DE X e te de) (hg : DG X tg g dg is) (hs : swapsWithSole [tg] e pos.line X.env = pure false := by rfl) (hw : swappedStores [tg] e X.env = pure none := by rfl)
    (h1 : (assignEach [tg] X.env).map (·.2) = [assign tg X.env] := by rfl) : DS X (.Assign [tg] e pos) (tAsg te g) (sAsg de dg) := ⟨ps_asg h.pe hg.pg hs hw h1, fun N F H σ ρ D E R hl q k =>
  h.le N F H σ ρ _ _ R q fun x v F1 H1 ρ1 q1 s1 R1 r1 => hg.lg N F1 H1 σ ρ1 x v _ _ R1 r1 q1 fun σ2 ρ2 q2 R2 l2 _ => k.nx F1 H1 σ2 ρ2 q2 s1 R2 l2⟩
def sPar (i j : Nat) (dv dw : DTV) : DTS := fun D ρ => dv ρ fun s ρ1 => dw ρ1 fun s' ρ2 => D.nx ((ρ2.set i s).set j s')
/-- the entry with the value standing aside, and how it is put into a slot later -/
theorem Pend.base {K : KW} {N : En} {F H : Hp} {σ : L2.St} {ρ : Rho} {s : Sl} {v : V} (p : Pend K N F H σ ρ s v) :
    ∃ N', RelS K N' F H σ ρ ∧ ∀ F2 H2 σ2 ρ2 i, Same F F2 → i < σ2.length → RelS K N' F2 H2 σ2 ρ2 → RelS K N F2 H2 (σ2.set i (some v)) (ρ2.set i s) := by
  cases s with
  | no => exact p.elim
  | my _ _ => exact p.elim
  | sh x => exact ⟨N, p.1, fun F2 H2 σ2 ρ2 i sm hi R => RelS.store (s := .sh x) ⟨R, p.2.mono sm⟩ hi⟩
  | ow x =>
    obtain ⟨a, o, rfl, h0, hF, hH, R, sh⟩ := p
    refine ⟨N.plus a o, R, fun F2 H2 σ2 ρ2 i sm hi R' => RelS.store (s := .ow x) ⟨a, o, rfl, h0, ?_, R'.plus_at (fun ob u z => ?_) sh.nt, R', sh.mono sm⟩ hi⟩
    · cases z : F2 a with
      | none => rfl
      | some u =>
        rcases R'.new a u z with y | y
        · rw [R.frz0 a u y] at hF; cases hF
        · rw [show (N.plus a o).H0 a = some o from upd_same] at y; cases y
    · have y := (R.lk _ z).2
      rw [show H a = some o from hH] at y
      cases y
      exact sh.nofrz
/-- what stands aside is made known -/
theorem Pend.share {K : KW} {N : En} {F H : Hp} {σ : L2.St} {ρ : Rho} {x : D} {v : V} (p : Pend K N F H σ ρ (.ow x) v) : ∃ F', Same F F' ∧ RelS K N F' H σ ρ ∧ Rep K F' x v := by
  obtain ⟨a, o, rfl, h0, hF, hH, R, sh⟩ := p
  obtain ⟨own, w1, w2⟩ := R.sl
  have sm : Same F (upd F a o) := same_upd hF
  have na : ∀ b j, own b = some j → b ≠ a := fun b j e z => by
    subst z
    have q := (w1 b j e).2.1
    rw [show (N.plus b o).H0 b = some o from upd_same] at q; cases q
  have h0' : ∀ b, (N.plus a o).H0 b = none → N.H0 b = none := fun b e => by
    by_cases hb : b = a
    · rw [hb]; exact h0
    · rw [show (N.plus a o).H0 b = N.H0 b from upd_ne hb] at e; exact e
  refine ⟨upd F a o, sm, ⟨fun b u e => ?_, R.frz0.trans sm, fun b u e => ?_, fun b u e nt => ?_, fun b e => h0' b (R.nn b e), R.tb, fun b ps e => R.tt b ps (by show upd N.H0 a o b = _; rw [upd_ne fun z => by rw [z, h0] at e; cases e]; exact e), R.lk, R.fz_of sh, own, fun b j e => ?_, fun j y e => ?_⟩, ?_⟩
  · by_cases hb : b = a
    · subst hb; rw [upd_same] at e; cases e; exact .inl ⟨hH, sh.nt⟩
    · rw [upd_ne hb] at e; exact R.sub b u e
  · by_cases hb : b = a
    · subst hb; exact .inr h0
    · rw [upd_ne hb] at e; exact (R.new b u e).imp id (h0' b)
  · refine R.old b u ?_ nt
    have hb : b ≠ a := fun z => by rw [z, h0] at e; cases e
    show upd N.H0 a o b = some u
    rw [upd_ne hb]; exact e
  · obtain ⟨q1, q2, q3⟩ := w1 b j e
    exact ⟨by rw [upd_ne (na b j e)]; exact q1, h0' b q2, q3⟩
  · obtain ⟨u, e1, r1⟩ := w2 j y e
    refine ⟨u, e1, ?_⟩
    cases y with
    | no => trivial
    | sh d => obtain ⟨v, e2, r2⟩ := r1; exact ⟨v, e2, r2.mono sm⟩
    | ow d => obtain ⟨b, w, q1, q2, q3, q4⟩ := r1; exact ⟨b, w, q1, q2, q3, q4.mono sm⟩
    | my _ d => obtain ⟨q0, b, w, q1, q2, q3, q4⟩ := r1; exact ⟨q0, b, w, q1, q2, q3, q4.mono sm⟩
  · exact sh.rep hF
theorem de_ow (h : DV X e te (vOw de)) : DE X e te de := ⟨h.pe, fun N F H σ ρ P Q R q k => h.le N F H σ ρ (fun s ρ' => match s with
  | .ow x => P x ρ'
  | _ => False) Q R q fun s v F' H' ρ' p sm pd => by
  cases s with
  | ow x =>
    obtain ⟨F2, s2, R2, r2⟩ := pd.share
    exact k x v F2 H' ρ' p (sm.trans s2) R2 r2
  | no => exact p.elim
  | my _ _ => exact p.elim
  | sh x => exact p.elim⟩
theorem ds_par (i j : Nat) {x y : Str} {a b : Expr} {ta tb : TE} {da db : DTV} {px py pt : Pos} {kt k2 pt2} (hc : X.calm = true) (hN : X.N.Nodup) (ha : DV X a ta da) (hb : DV X b tb db) (hi : X.N[i]? = some x := by rfl) (hj : X.N[j]? = some y := by rfl) (hij : i ≠ j := by decide)
    (hx : X.env.scope.names.lookup x = some .local := by rfl) (hy : X.env.scope.names.lookup y = some .local := by rfl)
    (hw : swappedStores [.Tuple [.Name x px, .Name y py] kt pt] (.Tuple [a, b] k2 pt2) X.env = pure (some [x, y]) := by rfl)
    (hs : swapsWithSole [.Tuple [.Name x px, .Name y py] kt pt] (.Tuple [a, b] k2 pt2) pos.line X.env = pure false := by rfl)
    (s1 : starEach [a, b] X.env = (false, eval a X.env) :: starEach [b] X.env := by rfl) (s2 : starEach [b] X.env = (false, eval b X.env) :: starEach [] X.env := by rfl) :
    DS X (.Assign [.Tuple [.Name x px, .Name y py] kt pt] (.Tuple [a, b] k2 pt2) pos) (tPar i j (tCons ta (tCons tb tNil))) (sPar i j da db) :=
  ⟨ps_par hc hN hi hj hij hx hy (pa_cons ha.pe (pa_cons hb.pe pa_nil s2) s1) hw hs, fun N F H σ ρ D E R hl q k => by
    have hil : i < σ.length := by rw [← hl]; exact (List.getElem?_eq_some_iff.mp hi).1
    have hjl : j < σ.length := by rw [← hl]; exact (List.getElem?_eq_some_iff.mp hj).1
    refine ha.le N F H σ ρ _ _ R q fun s v F1 H1 ρ1 q1 m1 p1 => ?_
    obtain ⟨N', R1, cl⟩ := p1.base
    refine hb.le N' F1 H1 σ ρ1 _ _ R1 q1 fun s' v' F2 H2 ρ2 q2 m2 p2 => ?_
    refine ⟨v, v', rfl, ?_⟩
    have R3 := cl F2 H2 _ _ i m2 (by simpa using hil) (RelS.store p2 hjl)
    rw [List.set_comm _ _ (Ne.symm hij), List.set_comm _ _ (Ne.symm hij)] at R3
    exact k.nx F2 H2 _ _ q2 (m1.trans m2) R3 (by simp)⟩
end
end Dc

namespace Dc
open PySem PySem.Spec
open PyProof.Rows L2
variable [TabsT]

/-! ### a def's promise from its body -/
theorem RelS.stp {K : KW} {F0 H0 F H : Hp} {σ : L2.St} {ρ : Rho} (R : RelS K ⟨F0, H0, []⟩ F H σ ρ) : Stp F0 H0 F H :=
  ⟨fun a o e nt => (R.old a o e nt).elim id fun ⟨_, z⟩ => absurd z (by simp), R.frz0, R.sub, R.new, fun a ob u e => (R.fz a ob u e).elim id fun z => absurd z (by simp), R.nn, fun _ => R.tb, R.tt⟩
def rho0 (n : Nat) (ds : List D) : Rho := ds.map Sl.sh ++ List.replicate (n - ds.length) Sl.no
theorem rel_start {K : KW} {F H : Hp} {Ns : List Str} {ds : List D} {vs : List V} (tb : LamX.Tabs TabsT.T H) (s : Sub F H) (r : Reps K F ds vs) : RelS K ⟨F, H, []⟩ F H (start Ns vs) (rho0 Ns.length ds) := by
  refine ⟨s, .refl _, fun _ _ e => .inl e, fun _ _ e _ => .inl e, fun _ e => e, tb, fun _ ps e => ⟨ps, e⟩, fun p hp => absurd hp (by simp), fun _ _ _ e => .inl e, fun _ => none, fun _ _ e => by simp at e, fun i x e => ?_⟩
  unfold rho0 at e
  unfold L2.start
  have hl := r.length
  by_cases hi : i < ds.length
  · rw [List.getElem?_append_left (by simpa using hi), List.getElem?_map] at e
    obtain ⟨d, hd⟩ : ∃ d, ds[i]? = some d := ⟨ds[i], by simp [hi]⟩
    rw [hd] at e
    cases e
    obtain ⟨v, hv, rv⟩ := r.get hd
    refine ⟨some v, ?_, v, rfl, rv⟩
    rw [List.getElem?_append_left (by simpa [← hl] using hi), List.getElem?_map, hv]
    rfl
  · rw [List.getElem?_append_right (by simpa using hi)] at e
    obtain ⟨h1, h2⟩ := List.getElem?_eq_some_iff.mp e
    simp at h1 h2
    subst h2
    refine ⟨none, ?_, trivial⟩
    rw [List.getElem?_append_right (by simp [← hl]; omega)]
    have : i - (vs.map some).length < (List.replicate (Ns.length - vs.length) (none : Option V)).length := by simp [← hl]; omega
    rw [List.getElem?_eq_getElem this]
    simp
theorem start_len {Ns : List Str} {vs : List V} (h : vs.length ≤ Ns.length) : Ns.length = (start Ns vs).length := by
  unfold L2.start
  simp
  omega
section
variable {P : Program} {w : World} {K : PySem.W.Frag} {mg : Str → Option Value} {base : Heap}
theorem fn_d {x qual : Str} {params : Arguments} {body : List Stmt} {scope : Scope} {dvs : List V} {kws : List (Str × V)} {f : Addr} {fd : FuncData} {Ns ps : List Str} {k : Nat} {S : SD} {d : DTS} (F : FunD K x qual params body scope dvs kws f fd) (Sc : FnScope Ns ps scope)
    (len : ∀ ds P, S ds P → ds.length = ps.length) (hn : ps.length ≤ Ns.length)
    (hbody : ∀ (cdv : Value) (A : Around) (outer : List Env) (s : Shared) (H : Hp) (E : XK), Room k (A.deeper (envOfC qual scope s.heap.objs.size f cdv)) → ∃ t, DSs (cxOf CX0 P w K mg base Ns qual scope f cdv A outer s H E).nox body t d)
    (rd : ∀ ds P, S ds P → d { nx := fun _ => P .non, rt := fun x _ => P x } (rho0 Ns.length ds)) : FnOk P w K mg base CX0 (k + 1) f fd ps (spD ⟨K, w⟩ S) := by
  refine F.ok Sc (fun vs H Q E h => ?_) (fun cdv A outer s H vs Q E hr h => ?_)
  · obtain ⟨F, ds, P, _, _, r, hS, _⟩ := h
    rw [← r.length]
    exact len ds P hS
  · obtain ⟨F1, ds, P1, tb, sb, r, hS, k⟩ := h
    obtain ⟨t, ht⟩ := hbody cdv A outer s H E hr
    refine ⟨t, ht.ps.nox, ?_⟩
    have hl : vs.length ≤ Ns.length := by rw [← r.length, len ds P1 hS]; exact hn
    exact ht.ls ⟨F1, H, []⟩ F1 H _ _ _ _ (rel_start tb sb r) (start_len hl) (rd ds P1 hS) ⟨fun F' H' σ' ρ' p s R _ => k _ _ F' H' p R.stp rfl, fun x v F' H' σ' ρ' p s R r => k x v F' H' p R.stp r, fun _ _ _ _ p => p.elim, fun _ _ _ _ p => p.elim⟩
end

theorem RelS.frz_at {K : KW} {N : En} {F H : Hp} {σ : L2.St} {ρ : Rho} (R : RelS K N F H σ ρ) {a : Addr} {ob : Obj} {u : HO} (e : N.H0 a = some (.frz ob u)) : H a = some (.frz ob u) := by
  rcases R.old a _ e (fun _ z => by cases z) with q | ⟨ob2, q⟩
  · exact q
  · have := (R.lk _ q).1
    cases this
/-! ### what is walked -/
/-- the iterator J yields these, one by one, while what F has is known and the locks stand -/
def ItOk (K : KW) (N : En) (F : Hp) (J : It) (xs : List D) : Prop := ∀ F' H', Same F F' → Sub F' H' → (∀ p ∈ N.L, H' p.1 = some (.frz p.2.1 p.2.2)) → (∀ a ob u, N.H0 a = some (.frz ob u) → H' a = some (.frz ob u)) →
  (∀ i x, xs[i]? = some x → J.go i H' ∧ ∀ v H2, J.yld i H' v H2 → ∃ F2, Stp F' H' F2 H2 ∧ Rep K F2 x v) ∧ J.stop xs.length H'
abbrev DTI := Rho → (List D → Rho → Prop) → Prop
structure DI (X : Cx) (tg iter : Expr) (wi : TI) (di : DTI) : Prop where
  pi : PI X tg iter wi
  li : ∀ (N : En) (F H : Hp) (σ : L2.St) (ρ : Rho) (P : List D → Rho → Prop) (R : It → Hp → Prop), RelS X.kw N F H σ ρ → di ρ P →
    (∀ xs F' H' ρ' J, P xs ρ' → Same F F' → RelS X.kw N F' H' σ ρ' → ItOk X.kw N F' J xs → R J H') → wi σ H R
section
variable {X : Cx} {pos : Pos} {tg e : Expr} {te : TE} {de : DTE}
theorem PI.or {wi wi' : TI} (h : PI X tg e wi) (g : PI X tg e wi') : PI X tg e (fun σ H R => wi σ H R ∨ wi' σ H R) := ⟨fun pins s σ H R I q => q.elim (h.run pins s σ H R I) (g.run pins s σ H R I)⟩
theorem itOk_list {K : KW} {L : En} {F : Hp} {a : Addr} {xs : List D} {vs : List V} (h : SqL K.K F a vs) (r : Reps K F xs vs) : ItOk K L F (Itl K.K a) xs := fun F' H' s sb _ _ => by
  have hq := sb.sqL (Same.seq s h)
  refine ⟨fun i x e => ?_, vs, hq, by rw [r.length]; exact Nat.le_refl _⟩
  obtain ⟨v, ev, rv⟩ := r.get e
  refine ⟨⟨vs, v, hq, ev⟩, fun v' H2 y => ?_⟩
  obtain ⟨e1, y⟩ := y
  subst e1
  have := y vs hq
  rw [ev] at this
  cases this
  exact ⟨F', .refl sb, rv.mono s⟩
theorem itOk_tup {K : KW} {L : En} {F : Hp} {a : Addr} {xs : List D} {vs : List V} (h : SqT K.K F a vs) (r : Reps K F xs vs) : ItOk K L F (Itt K.K a) xs := fun F' H' s sb _ _ => by
  have hq := sb.sqT (sqT_mono s h)
  refine ⟨fun i x e => ?_, vs, hq, by rw [r.length]; exact Nat.le_refl _⟩
  obtain ⟨v, ev, rv⟩ := r.get e
  refine ⟨⟨vs, v, hq, ev⟩, fun v' H2 y => ?_⟩
  obtain ⟨e1, y⟩ := y
  subst e1
  have := y vs hq
  rw [ev] at this
  cases this
  exact ⟨F', .refl sb, rv.mono s⟩
/-- a list or a tuple -/
def dSeq (de : DTE) : DTI := fun ρ P => de ρ fun x ρ1 => match x with
  | .lst xs => P xs ρ1
  | .tup xs => P xs ρ1
  | _ => False
/-- the parts evaluated once, then walked by kind -/
theorem di_lst (h : DE X e te de) : DI X tg e (iList X.K te) (fun ρ P => de ρ fun x ρ1 => match x with
  | .lst xs => P xs ρ1
  | _ => False) := ⟨pi_list h.pe, fun N F H σ ρ P R RS q k => by
  refine h.le N F H σ ρ _ _ RS q fun x v F1 H1 ρ1 q1 s1 R1 r1 => ?_
  split at q1
  · obtain ⟨a, vs, e1, hq, hl, rr⟩ := r1
    exact ⟨a, e1, ⟨vs, R1.sub.sqL hq⟩, k _ F1 H1 ρ1 _ q1 s1 R1 (itOk_list hq rr)⟩
  · exact q1.elim⟩
theorem di_tup (h : DE X e te de) : DI X tg e (iTup X.K te) (fun ρ P => de ρ fun x ρ1 => match x with
  | .tup xs => P xs ρ1
  | _ => False) := ⟨pi_tup h.pe, fun N F H σ ρ P R RS q k => by
  refine h.le N F H σ ρ _ _ RS q fun x v F1 H1 ρ1 q1 s1 R1 r1 => ?_
  split at q1
  · obtain ⟨a, vs, e1, hq, hl, rr⟩ := r1
    exact ⟨a, e1, ⟨vs, R1.sub.sqT hq⟩, k _ F1 H1 ρ1 _ q1 s1 R1 (itOk_tup hq rr)⟩
  · exact q1.elim⟩
theorem itOk_rng {K : KW} {L : En} {F : Hp} {lo : Int} {n : Nat} : ItOk K L F (Itr lo n) ((List.range n).map fun i : Nat => D.int (lo + (i : Int))) := fun F' H' s sb _ _ => by
  refine ⟨fun i x e => ?_, by simp; exact Nat.le_refl _⟩
  rw [List.getElem?_map] at e
  by_cases hi : i < n
  · rw [List.getElem?_range hi] at e
    cases e
    refine ⟨hi, fun v H2 y => ?_⟩
    obtain ⟨e1, e2⟩ := y
    subst e1 e2
    exact ⟨F', .refl sb, rfl⟩
  · rw [List.getElem?_eq_none (by simpa using hi)] at e
    cases e
def rngD (lo : Int) (n : Nat) : List D := (List.range n).map fun i : Nat => D.int (lo + (i : Int))
def dRng1 (ub : DTB) : DTI := fun ρ P => ub ρ fun xs => match xs with
  | [.int j] => -(2 ^ 62) ≤ j ∧ j < 2 ^ 62 ∧ P (rngD 0 j.toNat) ρ
  | _ => False
def dRng2 (ub : DTB) : DTI := fun ρ P => ub ρ fun xs => match xs with
  | [.int i, .int j] => -(2 ^ 62) ≤ i ∧ i < 2 ^ 62 ∧ -(2 ^ 62) ≤ j ∧ j < 2 ^ 62 ∧ P (rngD i (j - i).toNat) ρ
  | _ => False
variable {a b : Expr} {ta : TA} {ub : DTB}
theorem di_rng1 {p : Pos} (hg : Gl X "range") (hm : X.mg "range" = none) (h : DB X [a] ta ub) (hs : starEach [a] X.env = [(false, eval a X.env)] := by rfl) : DI X tg (.Call (.Name "range" p) [a] [] pos) (iRng1 ta) (dRng1 ub) :=
  ⟨pi_range1 hg hm h.pa hs, fun N F H σ ρ P R RS q k => by
    refine h.la N F H σ ρ _ _ RS q fun xs vs F1 H1 q1 s1 R1 r1 => ?_
    split at q1
    · obtain ⟨v, e, o⟩ := r1.one
      have o := R1.opd o
      obtain ⟨h1, h2, q1⟩ := q1
      exact ⟨_, by rw [e, show v = _ from o], h1, h2, k _ F1 H1 ρ _ q1 s1 R1 itOk_rng⟩
    · exact q1.elim⟩
theorem di_rng2 {p : Pos} (hg : Gl X "range") (hm : X.mg "range" = none) (h : DB X [a, b] ta ub) (hs : starEach [a, b] X.env = [(false, eval a X.env), (false, eval b X.env)] := by rfl) (hs2 : starEach [b] X.env = [(false, eval b X.env)] := by rfl) :
    DI X tg (.Call (.Name "range" p) [a, b] [] pos) (iRng2 ta) (dRng2 ub) :=
  ⟨pi_range2 hg hm h.pa hs hs2, fun N F H σ ρ P R RS q k => by
    refine h.la N F H σ ρ _ _ RS q fun xs vs F1 H1 q1 s1 R1 r1 => ?_
    split at q1
    · obtain ⟨v, u, e, o, o2⟩ := r1.two
      have o := R1.opd o
      have o2 := R1.opd o2
      obtain ⟨h1, h2, h3, h4, q1⟩ := q1
      exact ⟨_, _, by rw [e, show v = _ from o, show u = _ from o2], ⟨h1, h2, h3, h4⟩, k _ F1 H1 ρ _ q1 s1 R1 itOk_rng⟩
    · exact q1.elim⟩

/-! ### for, while -/
variable {st : Stmt} {body : List Stmt} {t : TS} {db : DTS} {wi : TI} {di : DTI} {g : TG} {dg : DTG} {is : List Nat} {iter : Expr}
def sFor (di : DTI) (dg : DTG) (db : DTS) : DTS := fun D ρ => di ρ fun xs ρ1 => ∃ W : Nat → Rho → Prop, W 0 ρ1 ∧ (∀ i x ρ2, xs[i]? = some x → W i ρ2 → dg x ρ2 fun ρ3 => db { D with nx := W (i + 1), ct := W (i + 1), bk := D.nx } ρ3) ∧ ∀ ρ2, W xs.length ρ2 → D.nx ρ2
/-- the loop itself, the iterator there -/
theorem loop_d {N : En} {F1 H1 : Hp} {σ : L2.St} {ρ1 : Rho} {D : DEnds} {E : Ends} {xs : List Dc.D} {J : It} (hg : DG X tg g dg is) (hb : DSs X body t db) (R1 : RelS X.kw N F1 H1 σ ρ1) (hl : X.N.length = σ.length) (ok : ItOk X.kw N F1 J xs)
    (q : ∃ W : Nat → Rho → Prop, W 0 ρ1 ∧ (∀ i x ρ2, xs[i]? = some x → W i ρ2 → dg x ρ2 fun ρ3 => db { D with nx := W (i + 1), ct := W (i + 1), bk := D.nx } ρ3) ∧ ∀ ρ2, W xs.length ρ2 → D.nx ρ2) (k : Hit X.kw N F1 σ.length D E) :
    ∃ W : Nat → Nat → L2.St → Hp → Prop, (∃ m, W 0 m σ H1) ∧ ∀ i m σ H, W i m σ H →
      (J.stop i H ∧ E.nx σ H) ∨ (J.go i H ∧ ∃ N : L2.St → Hp → Prop, (∀ σ' H', N σ' H' → ∃ m', m' < m ∧ W (i + 1) m' σ' H') ∧ ∀ x H', J.yld i H x H' → g x σ H' fun σ2 H2 => t { E with nx := N, ct := N, bk := E.nx } σ2 H2) := by
  obtain ⟨W, w0, step, fin⟩ := q
  refine ⟨fun i m σ' H => m = xs.length - i ∧ i ≤ xs.length ∧ σ'.length = σ.length ∧ ∃ F ρ, Same F1 F ∧ RelS X.kw N F H σ' ρ ∧ W i ρ, ⟨xs.length, by simp, Nat.zero_le _, rfl, F1, ρ1, .refl _, R1, w0⟩, ?_⟩
  rintro i m σ' H ⟨rfl, hi, hl', F, ρ, sF, R, w⟩
  obtain ⟨go, stop⟩ := ok F H sF R.sub (fun p hp => (R.lk p hp).2) fun a ob u e => R.frz_at e
  by_cases hlt : i < xs.length
  · obtain ⟨g1, g2⟩ := go i xs[i] (by simp [hlt])
    refine .inr ⟨g1, fun σ2 H2 => σ2.length = σ.length ∧ ∃ F ρ, Same F1 F ∧ RelS X.kw N F H2 σ2 ρ ∧ W (i + 1) ρ, fun σ2 H2 ⟨l2, F2, ρ2, s2, R2, w2⟩ => ⟨xs.length - (i + 1), by omega, rfl, hlt, l2, F2, ρ2, s2, R2, w2⟩, fun v H2 y => ?_⟩
    obtain ⟨F2, st, rv⟩ := g2 v H2 y
    refine hg.lg N F2 H2 σ' ρ _ v _ _ (R.step st) rv (step i _ ρ (by simp [hlt]) w) fun σ3 ρ3 q3 R3 l3 _ => ?_
    refine hb.ls N F2 H2 σ3 ρ3 { D with nx := W (i + 1), ct := W (i + 1), bk := D.nx } _ R3 (hl.trans (l3.trans hl').symm) q3 ?_
    have ln : σ3.length = σ.length := l3.trans hl'
    have sm : Same F1 F2 := sF.trans st.ff
    rw [ln]
    exact ⟨fun F' H' σ4 ρ4 p s R l => ⟨l, F', ρ4, sm.trans s, R, p⟩, fun x v F' H' σ4 ρ4 p s => k.rt x v F' H' σ4 ρ4 p (sm.trans s), fun F' H' σ4 ρ4 p s R l => k.nx F' H' σ4 ρ4 p (sm.trans s) R l, fun F' H' σ4 ρ4 p s R l => ⟨l, F', ρ4, sm.trans s, R, p⟩⟩
  · have e : i = xs.length := by omega
    subst e
    exact .inl ⟨stop, k.nx F H σ' ρ (fin ρ w) sF R hl'⟩
theorem ds_for (hp : PassesOwn (model X.prog X.w) X.A X.env X.xe) (hc : X.calm = true) (hi : DI X tg iter wi di) (hg : DG X tg g dg is) (hb : DSs X body t db) (hs : ∀ x, foldedSetIterable iter X.env x = pure x := by intro _; rfl) :
    DS X (.For tg iter body [] pos) (tFor wi g t) (sFor di dg db) := ⟨ps_for hp hc hi.pi hg.pg hb.ps hs, fun N F H σ ρ D E R hl q k =>
  hi.li N F H σ ρ _ _ R q fun xs F1 H1 ρ1 J q1 s1 R1 ok => loop_d hg hb R1 hl ok q1 (k.mono s1)⟩
def sWhile (c : DTT) (db : DTS) : DTS := fun D ρ => ∃ W : Nat → Rho → Prop, (∃ m, W m ρ) ∧ ∀ m ρ1, W m ρ1 → c ρ1 fun b ρ2 => (b = true → db { D with nx := fun r => ∃ m', m' < m ∧ W m' r, ct := fun r => ∃ m', m' < m ∧ W m' r, bk := D.nx } ρ2) ∧ (b = false → D.nx ρ2)
theorem ds_while {c : Expr} {tc : TT} {dc : DTT} (hp : PassesOwn (model X.prog X.w) X.A X.env X.xe) (hc : DT X c tc dc) (hb : DSs X body t db) : DS X (.While c body [] pos) (tWhile tc t) (sWhile dc db) := ⟨ps_while hp hc.pt hb.ps, fun N F H σ ρ D E R hl q k => by
  obtain ⟨W, ⟨m0, w0⟩, step⟩ := q
  refine ⟨fun m σ' H' => σ'.length = σ.length ∧ ∃ F' ρ', Same F F' ∧ RelS X.kw N F' H' σ' ρ' ∧ W m ρ', ⟨m0, rfl, F, ρ, .refl _, R, w0⟩, ?_⟩
  rintro m σ1 H1 ⟨l1, F1, ρ1, s1, R1, w1⟩
  refine hc.lt N F1 H1 σ1 ρ1 _ _ R1 (step m ρ1 w1) fun b F2 H2 ρ2 q2 s2 R2 => ?_
  have sm : Same F F2 := s1.trans s2
  cases b with
  | true =>
    rw [if_pos rfl]
    refine ⟨fun σ' H' => ∃ m', m' < m ∧ σ'.length = σ.length ∧ ∃ F' ρ', Same F F' ∧ RelS X.kw N F' H' σ' ρ' ∧ W m' ρ', fun σ' H' ⟨m', hm, z⟩ => ⟨m', hm, z⟩, ?_⟩
    refine hb.ls N F2 H2 σ1 ρ2 { D with nx := fun r => ∃ m', m' < m ∧ W m' r, ct := fun r => ∃ m', m' < m ∧ W m' r, bk := D.nx } _ R2 (hl.trans l1.symm) (q2.1 rfl) ?_
    rw [l1]
    exact ⟨fun F' H' σ4 ρ4 ⟨m', hm, p⟩ s R l => ⟨m', hm, l, F', ρ4, sm.trans s, R, p⟩, fun x v F' H' σ4 ρ4 p s => k.rt x v F' H' σ4 ρ4 p (sm.trans s), fun F' H' σ4 ρ4 p s R l => k.nx F' H' σ4 ρ4 p (sm.trans s) R l, fun F' H' σ4 ρ4 ⟨m', hm, p⟩ s R l => ⟨m', hm, l, F', ρ4, sm.trans s, R, p⟩⟩
  | false =>
    rw [if_neg Bool.false_ne_true]
    exact k.nx F2 H2 σ1 ρ2 (q2.2 rfl) sm R2 l1⟩

/-! ### list comprehensions -/
def wipeR (ρ : Rho) : List Nat → Rho
  | [] => ρ
  | i :: is => (wipeR ρ is).set i .no
theorem RelS.wiped {K : KW} {N : En} {F H : Hp} {σ : L2.St} {ρ : Rho} (R : RelS K N F H σ ρ) : ∀ is : List Nat, RelS K N F H (wipe σ is) (wipeR ρ is)
  | [] => R
  | i :: is => by
    have R1 := R.wiped is
    obtain ⟨own, w1, w2⟩ := R1.sl
    refine ⟨R1.sub, R1.frz0, R1.new, R1.old, R1.nn, R1.tb, R1.tt, R1.lk, R1.fz, own, w1, fun j x e => ?_⟩
    show ∃ o, ((wipe σ is).set i none)[j]? = some o ∧ _
    have e : ((wipeR ρ is).set i .no)[j]? = some x := e
    by_cases hj : j = i
    · subst hj
      have hl : j < (wipeR ρ is).length := by
        have := (List.getElem?_eq_some_iff.mp e).1
        simpa using this
      rw [List.getElem?_set_self hl] at e
      cases e
      obtain ⟨o, e1, _⟩ := w2 j _ (List.getElem?_eq_getElem hl)
      exact ⟨none, List.getElem?_set_self (List.getElem?_eq_some_iff.mp e1).1, trivial⟩
    · rw [List.getElem?_set_ne (Ne.symm hj)] at e ⊢
      exact w2 j x e
theorem wipe_eq {σ σ2 : L2.St} (hl : σ2.length = σ.length) : ∀ {vs : List Nat}, (∀ j, j ∉ vs → σ2[j]? = σ[j]?) → wipe σ2 vs = wipe σ vs := fun {vs} h => by
  have at_ : ∀ (τ : L2.St) (vs : List Nat) (j : Nat), (wipe τ vs)[j]? = if j ∈ vs ∧ j < τ.length then some none else τ[j]? := by
    intro τ vs
    induction vs with
    | nil => intro j; simp [wipe]
    | cons v vs ih =>
      intro j
      show ((wipe τ vs).set v none)[j]? = _
      by_cases hv : v = j
      · subst hv
        by_cases hlt : v < τ.length
        · rw [List.getElem?_set_self (by rw [wipe_length]; exact hlt)]; simp [hlt]
        · rw [List.getElem?_eq_none (by rw [List.length_set, wipe_length]; omega)]; simp [hlt]
      · rw [List.getElem?_set_ne hv, ih j]
        have : (j ∈ v :: vs) ↔ j ∈ vs := by simp [Ne.symm hv]
        simp [this]
  apply List.ext_getElem?
  intro j
  rw [at_, at_, hl]
  by_cases hj : j ∈ vs
  · by_cases hlt : j < σ.length
    · simp [hj, hlt]
    · rw [if_neg (fun z => hlt z.2), if_neg (fun z => hlt z.2), List.getElem?_eq_none (by omega), List.getElem?_eq_none (by omega)]
  · simp [hj]; exact h j hj
structure DTs (X : Cx) (ifs : List Expr) (t : TT) (d : DTT) : Prop where
  pt : PTs X ifs t
  lt : ∀ (N : En) (F H : Hp) (σ : L2.St) (ρ : Rho) (P : Bool → Rho → Prop) (Q : Bool → Hp → Prop), RelS X.kw N F H σ ρ → d ρ P →
    (∀ b F' H' ρ', P b ρ' → Same F F' → RelS X.kw N F' H' σ ρ' → Q b H') → t σ H Q
def dYes : DTT := fun ρ P => P true ρ
theorem dts_nil : DTs X [] tYes dYes := ⟨pts_nil, fun _ F H _ ρ _ _ R q k => k _ F H ρ q (.refl _) R⟩
theorem dts_one {c : Expr} {t : TT} {d : DTT} (h : DT X c t d) : DTs X [c] t d := ⟨pts_one h.pt, h.lt⟩
/-- no slot of these holds what is the def's own -/
def OkW (ρ : Rho) (is : List Nat) : Prop := ∀ j ∈ is, ∀ d, ρ[j]? ≠ some (.ow d) ∧ ∀ a, ρ[j]? ≠ some (.my a d)
theorem wipeR_out {ρ : Rho} {j : Nat} : ∀ {is : List Nat}, j ∉ is → (wipeR ρ is)[j]? = ρ[j]?
  | [], _ => rfl
  | i :: is, h => by
    show ((wipeR ρ is).set i .no)[j]? = _
    rw [List.mem_cons, not_or] at h
    rw [List.getElem?_set_ne (Ne.symm h.1)]
    exact wipeR_out h.2
theorem wipe_out1 {σ : L2.St} {j : Nat} : ∀ {is : List Nat}, j ∉ is → (wipe σ is)[j]? = σ[j]?
  | [], _ => rfl
  | i :: is, h => by
    show ((wipe σ is).set i none)[j]? = _
    rw [List.mem_cons, not_or] at h
    rw [List.getElem?_set_ne (Ne.symm h.1)]
    exact wipe_out1 h.2
/-- behind a block the outer slots are as they were -/
theorem RelS.back {K : KW} {N N' : En} {F F4 H H4 : Hp} {σ σ2 : L2.St} {ρ ρ2 : Rho} {is : List Nat} (R : RelS K N F H σ ρ) (R2 : RelS K N' F4 H4 σ2 ρ2) (s : Same F F4) (w : OkW ρ is)
    (h : ∀ j, j ∉ is → σ2[j]? = σ[j]? ∧ ρ2[j]? = ρ[j]?) : RelS K N' F4 H4 σ ρ := by
  obtain ⟨own, w1, w2⟩ := R2.sl
  obtain ⟨own0, u1, u2⟩ := R.sl
  refine ⟨R2.sub, R2.frz0, R2.new, R2.old, R2.nn, R2.tb, R2.tt, R2.lk, R2.fz, own, w1, fun j x e => ?_⟩
  by_cases hj : j ∈ is
  · obtain ⟨o, e1, r⟩ := u2 j x e
    refine ⟨o, e1, ?_⟩
    cases x with
    | no => trivial
    | sh d => obtain ⟨v, e2, r2⟩ := r; exact ⟨v, e2, r2.mono s⟩
    | ow d => exact absurd e (w j hj d).1
    | my a d => exact absurd e ((w j hj d).2 a)
  · obtain ⟨o, e1, r⟩ := w2 j x (by rw [(h j hj).2]; exact e)
    exact ⟨o, by rw [← (h j hj).1]; exact e1, r⟩
/-- the object that stands aside is changed -/
theorem RelS.plus_upd {K : KW} {N : En} {F H : Hp} {σ : L2.St} {ρ : Rho} {a : Addr} {o o' : HO} (R : RelS K (N.plus a o) F H σ ρ) (hF : F a = none) (hH : H a = some o) (hL : ∀ p ∈ N.L, p.1 ≠ a) (nf : ∀ ob u, o' ≠ .frz ob u := by intro _ _ h; cases h) (ntO : NT o := by intro _ h; cases h) (ncO : NC o := by intro _ _ h; unfold LamX.CodeO at h; cases h) (nt' : NT o' := by intro _ h; cases h) : RelS K (N.plus a o') F (upd H a o') σ ρ := by
  obtain ⟨own, w1, w2⟩ := R.sl
  have na : ∀ b j, own b = some j → b ≠ a := fun b j e z => by
    subst z
    have q := (w1 b j e).2.1
    rw [show (N.plus b o).H0 b = some o from upd_same] at q; cases q
  have nta : NT o := ntO
  refine ⟨fun b u e => ?_, R.frz0, fun b u e => ?_, fun b u e nt => ?_, fun b e => ?_, ?_, fun b ps e => ?_, fun p hp => ?_, fun b ob u e => ?_, own, fun b j e => ?_, fun j x e => ?_⟩
  · have hb : b ≠ a := fun z => by rw [z, hF] at e; cases e
    rw [upd_ne hb]; exact R.sub b u e
  · have hb : b ≠ a := fun z => by rw [z, hF] at e; cases e
    refine (R.new b u e).imp id fun z => ?_
    show upd N.H0 a o' b = none
    rw [upd_ne hb]
    rw [show (N.plus a o).H0 b = N.H0 b from upd_ne hb] at z
    exact z
  · by_cases hb : b = a
    · subst hb
      rw [show (N.plus b o').H0 b = some o' from upd_same] at e
      cases e
      exact .inl upd_same
    · rw [show (N.plus a o').H0 b = N.H0 b from upd_ne hb] at e
      rw [upd_ne hb]
      exact R.old b u (by show upd N.H0 a o b = some u; rw [upd_ne hb]; exact e) nt
  · have hb : b ≠ a := fun z => by rw [z, upd_same] at e; cases e
    rw [upd_ne hb] at e
    show upd N.H0 a o' b = none
    rw [upd_ne hb]
    have := R.nn b e
    rw [show (N.plus a o).H0 b = N.H0 b from upd_ne hb] at this
    exact this
  · exact tabs_upd R.tb hH nta ncO
  · have e : upd N.H0 a o' b = some (.tbl ps) := e
    have hb : b ≠ a := fun z => by rw [z, upd_same] at e; cases e; exact nt' _ rfl
    rw [upd_ne hb] at e ⊢
    exact R.tt b ps (by show upd N.H0 a o b = _; rw [upd_ne hb]; exact e)
  · exact ⟨(R.lk p hp).1, by rw [upd_ne (hL p hp)]; exact (R.lk p hp).2⟩
  · by_cases hb : b = a
    · subst hb; rw [upd_same] at e; cases e; exact absurd rfl (nf _ _)
    · rw [upd_ne hb] at e
      refine (R.fz b ob u e).imp (fun z => ?_) id
      show upd N.H0 a o' b = _
      rw [upd_ne hb]
      rw [show (N.plus a o).H0 b = N.H0 b from upd_ne hb] at z
      exact z
  · obtain ⟨q1, q2, q3⟩ := w1 b j e
    have hb := na b j e
    refine ⟨q1, ?_, by rw [upd_ne hb]; exact q3⟩
    show upd N.H0 a o' b = none
    rw [upd_ne hb]
    rw [show (N.plus a o).H0 b = N.H0 b from upd_ne hb] at q2
    exact q2
  · obtain ⟨u, e1, r1⟩ := w2 j x e
    refine ⟨u, e1, ?_⟩
    cases x with
    | no => trivial
    | sh d => exact r1
    | ow d =>
      obtain ⟨b, w, q1, q2, q3, q4⟩ := r1
      exact ⟨b, w, q1, q2, by rw [upd_ne (na b j q2)]; exact q3, q4⟩
    | my _ d =>
      obtain ⟨q0, b, w, q1, q2, q3, q4⟩ := r1
      exact ⟨q0, b, w, q1, q2, by rw [upd_ne (na b j q2)]; exact q3, q4⟩
/-- each item in turn: what is so far made is W's; a turn leaves the slots as they were -/
def dLc (di : DTI) (dg : DTG) (dt : DTT) (de : DTE) (is : List Nat) : DTE := fun ρ P => di ρ fun xs ρ1 => OkW ρ1 is ∧ xs.length ≤ sizeLine ∧ ∃ W : Nat → List D → Prop, W 0 [] ∧ (∀ i x acc, xs[i]? = some x → W i acc → dg x (wipeR ρ1 is) fun ρ2 => dt ρ2 fun b ρ3 => ρ3 = ρ2 ∧
  (b = true → de ρ3 fun y ρ4 => ρ4 = ρ3 ∧ W (i + 1) (acc ++ [y])) ∧ (b = false → W (i + 1) acc)) ∧ ∀ acc, W xs.length acc → P (.lst acc) ρ1
/-- a block's parts, whatever its frame -/
abbrev Blk (X : Cx) (scope : Scope) (J : Cx → Prop) : Prop := ∀ (s : Shared) (H : Hp) (C : Addr) (cl : List (Str × Addr)) (fp : List Addr), J (X.blk s H scope (compEnvC scope cl C X.env) fp)
/-- a comprehension's turns, the iterator there -/
theorem lc_turns {elt : Expr} {ifs : List Expr} {tt : TT} {dt : DTT} {tl : TE} {dl : DTE} {scope : Scope} {own : List (Str × Nat)} {js : List Nat} {J : It} {xs : List D} {N : En} {F1 H1 : Hp} {σ : L2.St} {ρ1 : Rho} {P : Sl → Rho → Prop} {Q : VK}
    (hg : Blk X scope fun Y => DG Y tg g dg js) (ht : Blk X scope fun Y => DTs Y ifs tt dt) (he : Blk X scope fun Y => DE Y elt tl dl) (hjs : ∀ j ∈ js, j ∈ own.map (·.2)) (R1 : RelS X.kw N F1 H1 σ ρ1) (ok : ItOk X.kw N F1 J xs)
    (q1 : OkW ρ1 (own.map (·.2)) ∧ xs.length ≤ sizeLine ∧ ∃ W : Nat → List D → Prop, W 0 [] ∧ (∀ i x acc, xs[i]? = some x → W i acc → dg x (wipeR ρ1 (own.map (·.2))) fun ρ2 => dt ρ2 fun b ρ3 => ρ3 = ρ2 ∧
      (b = true → dl ρ3 fun y ρ4 => ρ4 = ρ3 ∧ W (i + 1) (acc ++ [y])) ∧ (b = false → W (i + 1) acc)) ∧ ∀ acc, W xs.length acc → P (.ow (.lst acc)) ρ1)
    (k : ∀ x v F' H' ρ', P x ρ' → Same F1 F' → Pend X.kw N F' H' σ ρ' x v → Q v H') :
    ∀ D, H1 D = none → ∃ W : Nat → Nat → Hp → Prop, (∃ m, W 0 m (upd H1 D (.lst []))) ∧ ∀ i m H, W i m H →
      (J.stop i H ∧ Q (.ref D) H) ∨ (J.go i H ∧ ∃ Nx : Hp → Prop, (∀ H', Nx H' → ∃ m', m' < m ∧ W (i + 1) m' H') ∧ ∀ x H', J.yld i H x H' → g x (wipe σ (own.map (·.2))) H' fun σ2 H2 => wipe σ2 (own.map (·.2)) = wipe σ (own.map (·.2)) ∧ tt σ2 H2 fun b H3 =>
        if b = true then tl σ2 H3 fun y H4 => ∃ acc, H4 D = some (.lst acc) ∧ acc.length < sizeLine ∧ Nx (upd H4 D (.lst (acc ++ [y]))) else Nx H3) := by
  obtain ⟨okw, hsz, W, w0, step, fin⟩ := q1
  intro Dd hD
  have h0 := R1.fresh hD
  have hL : ∀ p ∈ N.L, p.1 ≠ Dd := fun p hp z => by
    have y := (R1.lk p hp).2
    rw [z, hD] at y; cases y
  refine ⟨fun i m H => m = xs.length - i ∧ i ≤ xs.length ∧ ∃ F av acc, Same F1 F ∧ F Dd = none ∧ H Dd = some (.lst av) ∧ RelS X.kw (N.plus Dd (.lst av)) F H σ ρ1 ∧ Reps X.kw F acc av ∧ acc.length ≤ i ∧ W i acc, ⟨xs.length, by simp, Nat.zero_le _, F1, [], [], .refl _, R1.sub.free hD, upd_same, ?_, rfl, Nat.le_refl _, w0⟩, ?_⟩
  · obtain ⟨a, o, e, _, _, _, R2, sh⟩ := Pend.laid (x := .lst []) (o := .lst []) R1 ⟨[], rfl, Nat.zero_le _, rfl⟩ hD
    cases e
    obtain ⟨vs, eo, _, _⟩ := sh
    have e3 : o = .lst [] := by
      have := R2.plus_at (fun ob u z => hL _ z rfl) (by rw [eo]; intro _ h; cases h)
      rw [upd_same] at this
      exact (Option.some.inj this).symm
    rw [e3] at R2
    exact R2
  · rintro i m H2 ⟨rfl, hi, F2, av, acc, s2, hF2, hH2, R2, ra, la, w⟩
    obtain ⟨go, stop⟩ := ok F2 H2 s2 R2.sub (fun p hp => (R2.lk p hp).2) fun a ob u e => R2.frz_at (by show upd N.H0 Dd _ a = _; rw [upd_ne (fun z => by rw [z, h0] at e; cases e)]; exact e)
    by_cases hlt : i < xs.length
    · obtain ⟨g1, g2⟩ := go i xs[i] (by simp [hlt])
      refine .inr ⟨g1, fun H' => ∃ F av acc, Same F1 F ∧ F Dd = none ∧ H' Dd = some (.lst av) ∧ RelS X.kw (N.plus Dd (.lst av)) F H' σ ρ1 ∧ Reps X.kw F acc av ∧ acc.length ≤ i + 1 ∧ W (i + 1) acc, fun H' ⟨F, av, acc, z⟩ => ⟨xs.length - (i + 1), by omega, rfl, hlt, F, av, acc, z⟩, fun v H3 y => ?_⟩
      obtain ⟨F3, st, rv⟩ := g2 v H3 y
      have R3 := R2.step st
      have hF3 : ∀ {F' : Hp} {H' : Hp} {σ' : L2.St} {ρ' : Rho}, RelS X.kw (N.plus Dd (.lst av)) F' H' σ' ρ' → F' Dd = none := fun {F' H' σ' ρ'} R' => by
        cases z : F' Dd with
        | none => rfl
        | some u =>
          rcases R'.new Dd u z with y | y
          · have := R2.frz0 Dd u y
            rw [hF2] at this; cases this
          · rw [show (N.plus Dd (.lst av)).H0 Dd = some (.lst av) from upd_same] at y; cases y
      have wl : (wipe σ (own.map (·.2))).length = σ.length := wipe_length _ _
      obtain ⟨sb, Hb, Cb, cb, fb, hz⟩ : ∃ (s : Shared) (H : Hp) (C : Addr) (cl : List (Str × Addr)) (fp : List Addr), True := ⟨X.s_0, X.H_0, 0, [], [], trivial⟩
      refine (hg sb Hb Cb cb fb).lg _ F3 H3 _ _ _ v _ _ (R3.wiped _) rv (step i _ acc (by simp [hlt]) w) fun σ4 ρ4 q4 R4 l4 t4 => ?_
      have same4 : ∀ j, j ∉ own.map (·.2) → σ4[j]? = σ[j]? ∧ ρ4[j]? = ρ1[j]? := fun j hj => by
        obtain ⟨z1, z2⟩ := t4 j fun z => hj (hjs j z)
        exact ⟨z1.trans (wipe_out1 hj), z2.trans (wipeR_out hj)⟩
      refine ⟨wipe_eq (l4.trans wl) fun j hj => (same4 j hj).1, ?_⟩
      refine (ht sb Hb Cb cb fb).lt _ F3 H3 σ4 ρ4 _ _ R4 q4 fun b F5 H5 ρ5 q5 s5 R5 => ?_
      obtain ⟨e5, qt, qf⟩ := q5
      subst e5
      cases b with
      | true =>
        rw [if_pos rfl]
        refine (he sb Hb Cb cb fb).le _ F5 H5 σ4 ρ5 _ _ R5 (qt rfl) fun y v' F6 H6 ρ6 q6 s6 R6 r6 => ?_
        obtain ⟨e6, w6⟩ := q6
        subst e6
        have sm : Same F2 F6 := (st.ff.trans s5).trans s6
        have Rb : RelS X.kw (N.plus Dd (.lst av)) F6 H6 σ ρ1 := R2.back R6 sm okw same4
        have hD6 := Rb.plus_at fun ob u z => hL _ z rfl
        have hz6 : av.length < sizeLine := by rw [← ra.length]; omega
        refine ⟨av, hD6, hz6, F6, av ++ [v'], acc ++ [y], s2.trans sm, hF3 Rb, upd_same, Rb.plus_upd (hF3 Rb) hD6 hL, (ra.mono sm).append (.one r6), by simp; omega, w6⟩
      | false =>
        rw [if_neg Bool.false_ne_true]
        have sm : Same F2 F5 := st.ff.trans s5
        have Rb : RelS X.kw (N.plus Dd (.lst av)) F5 H5 σ ρ1 := R2.back R5 sm okw same4
        exact ⟨F5, av, acc, s2.trans sm, hF3 Rb, Rb.plus_at fun ob u z => hL _ z rfl, Rb, ra.mono sm, Nat.le_succ_of_le la, qf rfl⟩
    · have e : i = xs.length := by omega
      subst e
      exact .inl ⟨stop, k _ _ F2 H2 ρ1 (fin acc w) s2 ⟨Dd, _, rfl, h0, hF2, hH2, R2, av, rfl, by rw [← ra.length]; omega, ra⟩⟩
theorem le_lc {elt : Expr} {ifs : List Expr} {scope : Scope} {own : List (Str × Nat)} {tt : TT} {dt : DTT} {tl : TE} {dl : DTE} {js : List Nat} (hi : DI X tg iter wi di)
    (hg : Blk X scope fun Y => DG Y tg g dg js) (ht : Blk X scope fun Y => DTs Y ifs tt dt) (he : Blk X scope fun Y => DE Y elt tl dl) (hjs : ∀ j ∈ js, j ∈ own.map (·.2))
    (N : En) (F H : Hp) (σ : L2.St) (ρ : Rho) (P : Sl → Rho → Prop) (Q : VK) (R : RelS X.kw N F H σ ρ) (q : vOw (dLc di dg dt dl (own.map (·.2))) ρ P) (k : ∀ x v F' H' ρ', P x ρ' → Same F F' → Pend X.kw N F' H' σ ρ' x v → Q v H') :
    tLc wi g tt tl (own.map (·.2)) σ H Q :=
  hi.li N F H σ ρ _ _ R q fun xs F1 H1 ρ1 J q1 s1 R1 ok => lc_turns hg ht he hjs R1 ok q1 fun x v F' H' ρ' p s pd => k x v F' H' ρ' p (s1.trans s) pd
theorem dv_lc {elt : Expr} {ifs : List Expr} {scope : Scope} {own : List (Str × Nat)} {tt : TT} {dt : DTT} {tl : TE} {dl : DTE} {js : List Nat} (hc : X.calm = true) (hN : X.N.Nodup) (hi : DI X tg iter wi di) (ok : BlkOk X.N X.env.scope scope own)
    (hg : Blk X scope fun Y => DG Y tg g dg js) (ht : Blk X scope fun Y => DTs Y ifs tt dt) (he : Blk X scope fun Y => DE Y elt tl dl) (hjs : ∀ j ∈ js, j ∈ own.map (·.2)) (hs : ∀ x, foldedSetIterable iter X.env x = pure x := by intro _; rfl) :
    DV X (.ListComp elt [⟨tg, iter, ifs, 0⟩] scope pos) (tLc wi g tt tl (own.map (·.2))) (vOw (dLc di dg dt dl (own.map (·.2)))) :=
  ⟨pe_lc hc hN hi.pi ok (fun s H C cl fp => (hg s H C cl fp).pg) (fun s H C cl fp => (ht s H C cl fp).pt) (fun s H C cl fp => (he s H C cl fp).pe) hs, le_lc hi hg ht he hjs⟩
/-- name = [..], the name a local -/
theorem ds_setLc (i : Nat) {y : Str} {py spos : Pos} {elt : Expr} {ifs : List Expr} {scope : Scope} {own : List (Str × Nat)} {tt : TT} {dt : DTT} {tl : TE} {dl : DTE} {js : List Nat} (hc : X.calm = true) (hN : X.N.Nodup) (hi : DI X tg iter wi di) (ok : BlkOk X.N X.env.scope scope own)
    (hg : Blk X scope fun Y => DG Y tg g dg js) (ht : Blk X scope fun Y => DTs Y ifs tt dt) (he : Blk X scope fun Y => DE Y elt tl dl) (hjs : ∀ j ∈ js, j ∈ own.map (·.2)) (hy : X.N[i]? = some y := by rfl) (hyl : X.env.scope.names.lookup y = some .local := by rfl)
    (hsw : swapsWith (.ListComp elt [⟨tg, iter, ifs, 0⟩] scope pos) (some (.Name y py)) spos.line X.env = pure true := by exact sw_true rfl rfl rfl (by decide +kernel)) (hs : ∀ x, foldedSetIterable iter X.env x = pure x := by intro _; rfl) :
    DS X (.Assign [.Name y py] (.ListComp elt [⟨tg, iter, ifs, 0⟩] scope pos) spos) (tAsg (tLc wi g tt tl (own.map (·.2))) (gName i)) (sSet i (vOw (dLc di dg dt dl (own.map (·.2))))) :=
  ⟨ps_setLc hc hN hy hyl hsw hi.pi ok (fun s H C cl fp => (hg s H C cl fp).pg) (fun s H C cl fp => (ht s H C cl fp).pt) (fun s H C cl fp => (he s H C cl fp).pe) hs, fun N F H σ ρ D E R hl q k => by
    have hil : i < σ.length := by rw [← hl]; exact (List.getElem?_eq_some_iff.mp hy).1
    exact le_lc hi hg ht he hjs N F H σ ρ _ _ R q fun s v F1 H1 ρ1 q1 s1 R1 => k.nx F1 H1 _ _ q1 s1 (RelS.store R1 hil) (by simp)⟩
end
end Dc

namespace Dc
open PySem PySem.Spec
open PyProof.Rows L2
variable [TabsT]
section
variable {K : KW} {N : En} {F H : Hp} {σ : L2.St} {ρ : Rho}
theorem lay_tup {xs : List D} {vs : List V} (R : RelS K N F H σ ρ) (r : Reps K F xs vs) (hl : xs.length ≤ sizeLine) {P : D → Prop} {Q : VK} (hp : P (.tup xs)) (k : ∀ z w F' H', P z → Stp F H F' H' → Rep K F' z w → Q w H') :
    ∀ p, H p = none → Q (.ref p) (upd H p (.tup vs)) := fun p h => k _ _ _ _ hp (.laid R.sub h) (rep_tup R.sub r hl h)
theorem lay_lst {xs : List D} {vs : List V} (R : RelS K N F H σ ρ) (r : Reps K F xs vs) (hl : xs.length ≤ sizeLine) {P : D → Prop} {Q : VK} (hp : P (.lst xs)) (k : ∀ z w F' H', P z → Stp F H F' H' → Rep K F' z w → Q w H') :
    ∀ p, H p = none → Q (.ref p) (upd H p (.lst vs)) := fun p h => k _ _ _ _ hp (.laid R.sub h) (rep_lst R.sub r hl h)

/-! ### subscripts -/
def rdIx : D → D → (D → Prop) → Prop := fun x y P => match x, y with
  | .lst xs, .int i => ∃ v, atI xs i = some v ∧ P v
  | .tup xs, .int i => ∃ v, atI xs i = some v ∧ P v
  | _, _ => False
theorem atI_rep {xs : List D} {vs : List V} (r : Reps K F xs vs) {i : Int} {x : D} (h : atI xs i = some x) : ∃ v, atI vs i = some v ∧ Rep K F x v := by
  unfold atI at h ⊢
  rw [← r.length]
  cases e : ixN xs.length i with
  | none => rw [e] at h; cases h
  | some j =>
    rw [e] at h
    exact r.get h
theorem lr_ix : LR K (rIx K.K) rdIx := by
  intro N F H σ ρ x y v u P Q R hx hy h k
  have hb := R.opd hx
  unfold rdIx at h
  split at h
  · obtain ⟨z, hz, hp⟩ := h
    obtain ⟨a, vs, e, hq, hl, r⟩ := hb
    obtain ⟨w, hw, rw'⟩ := atI_rep r hz
    exact .inl ⟨a, vs, _, w, e, opd_int R hy, hq, hw, k _ _ F H hp (.refl R.sub) rw'⟩
  · obtain ⟨z, hz, hp⟩ := h
    obtain ⟨a, vs, e, hq, hl, r⟩ := hb
    obtain ⟨w, hw, rw'⟩ := atI_rep r hz
    exact .inr (.inl ⟨a, vs, _, w, e, opd_int R hy, hq, hw, k _ _ F H hp (.refl R.sub) rw'⟩)
  · exact h.elim
/-- dicts -/
def keyD : Key → D
  | .inl i => .int i
  | .inr x => .str x
def dkey : D → Option Key
  | .int i => some (.inl i)
  | .str x => some (.inr x)
  | _ => none
def getD' {κ : Type} [DecidableEq κ] (ks : List κ) (xs : List D) (k : κ) : Option D := ((ks.zip xs).find? fun p => decide (p.1 = k)).map (·.2)
theorem valV_rep {κ : Type} [DecidableEq κ] : ∀ {ks : List κ} {xs : List D} {vs : List V} {k : κ}, Reps K F xs vs → (match getD' ks xs k with
    | some x => ∃ v, valV (ks.zip vs) k = some v ∧ Rep K F x v
    | none => valV (ks.zip vs) k = none)
  | [], xs, vs, k, r => by simp [getD', valV]
  | k0 :: ks, [], vs, k, r => by cases (show vs = [] from r); simp [getD', valV]
  | k0 :: ks, x :: xs, vs, k, ⟨v, r, e, h1, h2⟩ => by
    subst e
    by_cases hk : k0 = k
    · simp [getD', valV, hk]; exact h1
    · have ih := valV_rep (ks := ks) (k := k) h2
      have e1 : getD' (k0 :: ks) (x :: xs) k = getD' ks xs k := by simp [getD', hk]
      have e2 : valV ((k0, v) :: ks.zip r) k = valV (ks.zip r) k := by simp [valV, hk]
      rw [e1]
      show (match getD' ks xs k with
        | some x => ∃ v', valV ((k0, v) :: ks.zip r) k = some v' ∧ Rep K F x v'
        | none => valV ((k0, v) :: ks.zip r) k = none)
      rw [e2]
      exact ih
theorem dkey_rep {y : D} {k : Key} {u : V} (h : dkey y = some k) (r : RepB K F H y u) : u = kV k := by
  cases y with
  | int i => cases h; exact r
  | str x => cases h; exact r
  | _ => cases h
/-! d[k], int and text keys -/
def rDK : R2 := fun x y H Q => ∃ a kvs k v, x = .ref a ∧ Rd H a (.dK kvs) ∧ y = kV k ∧ valV kvs k = some v ∧ Q v H
theorem dict_item {X : Cx} (hu : X.A.units + 1 < cLine) : IxR X rDK := by
  intro value slice pins s σ H x y v u Q I rx ry h hs
  obtain ⟨a, kvs, k, w, rfl, hr, rfl, hv, q⟩ := h
  cases rx
  have g : DGet H a (kV k) (some w) := .inl ⟨kvs, k, hr, rfl, hv.symm⟩
  exact PyProof.Rows.tail_any (dict_typeIs I g) PySem.F.slot_dict_getitem.lookup (d_getItem hu I g ry fun w' s3 I3 rw' => ⟨w, H, I3, rw', q⟩) hs
def rdDK : D → D → (D → Prop) → Prop := fun x y P => match x with
  | .dk ks xs => ∃ k v, dkey y = some k ∧ getD' ks xs k = some v ∧ P v
  | _ => False
theorem lr_dk : LR K rDK rdDK := by
  intro N F H σ ρ x y v u P Q R hx hy h k
  have hb := R.opd hx
  unfold rdDK at h
  split at h
  · obtain ⟨kk, w, hk, hw, hp⟩ := h
    obtain ⟨a, vs, e, hq, hl, r⟩ := hb
    have z := valV_rep (ks := ‹List Key›) (k := kk) r
    rw [hw] at z
    obtain ⟨w', e2, r2⟩ := z
    exact ⟨a, _, kk, w', e, hq, dkey_rep hk (R.opd hy), e2, k _ _ F H hp (.refl R.sub) r2⟩
  · exact h.elim

/-! ### builtins: len, tuple, list, sum, all, any -/
theorem call_len_d {X : Cx} : CallR X (.builtin "len") (fun xs H Q => ∃ (a : Addr) (kvs : List (Key × V)), xs = [.ref a] ∧ Rd H a (.dK kvs) ∧ Q (.int kvs.length) H) := by
  intro pins s σ H xs us Q I r h
  obtain ⟨a, kvs, rfl, hr, q⟩ := h
  obtain ⟨u, rfl, rx⟩ := vals1 r
  cases rx
  exact d_len I hr fun t s' I' => ⟨.int kvs.length, H, I', ⟨t, rfl⟩, q⟩
def rLen (K : PySem.W.Frag) : List V → Hp → VK → Prop := fun xs H Q => (∃ p ys, xs = [.ref p] ∧ (SqL K H p ys ∨ SqT K H p ys) ∧ Q (.int ys.length) H) ∨ (∃ (a : Addr) (kvs : List (Key × V)), xs = [.ref a] ∧ Rd H a (.dK kvs) ∧ Q (.int kvs.length) H)
theorem cr_len {X : Cx} : CallR X (.builtin "len") (rLen X.K) := call_len_seq.or call_len_d
def rdLen : List D → (D → Prop) → Prop := fun xs P => match xs with
  | [.lst ys] => P (.int ys.length)
  | [.tup ys] => P (.int ys.length)
  | [.dk ks _] => P (.int ks.length)
  | _ => False
theorem zip_len {κ : Type} {ks : List κ} {vs : List V} (h : ks.length = vs.length) : (ks.zip vs).length = ks.length := by simp [h]
theorem lc_len : LC K (rLen K.K) rdLen := by
  intro N F H σ ρ xs vs P Q R o h k
  unfold rdLen at h
  split at h
  · obtain ⟨v, rfl, hv⟩ := o.one
    obtain ⟨a, us, e, hq, _, r⟩ := R.opd hv
    exact .inl ⟨a, us, by rw [e], .inl hq, k _ _ F H h (.refl R.sub) (by rw [r.length]; rfl)⟩
  · obtain ⟨v, rfl, hv⟩ := o.one
    obtain ⟨a, us, e, hq, _, r⟩ := R.opd hv
    exact .inl ⟨a, us, by rw [e], .inr hq, k _ _ F H h (.refl R.sub) (by rw [r.length]; rfl)⟩
  · obtain ⟨v, rfl, hv⟩ := o.one
    obtain ⟨a, us, e, hq, hl, r⟩ := R.opd hv
    exact .inr ⟨a, _, by rw [e], hq, k _ _ F H h (.refl R.sub) (by rw [zip_len hl]; rfl)⟩
  · exact h.elim
def rTup (K : PySem.W.Frag) : List V → Hp → VK → Prop := fun xs H Q => ∃ p ys, xs = [.ref p] ∧ ((SqL K H p ys ∧ ∀ l, H l = none → Q (.ref l) (upd H l (.tup ys))) ∨ (SqT K H p ys ∧ Q (.ref p) H))
def rdTup : List D → (D → Prop) → Prop := fun xs P => match xs with
  | [.lst ys] => P (.tup ys)
  | [.tup ys] => P (.tup ys)
  | _ => False
/-- a tuple stands in F as it is: by R, not only in H -/
theorem lc_tup : LC K (rTup K.K) rdTup := by
  intro N F H σ ρ xs vs P Q R o h k
  unfold rdTup at h
  split at h
  · obtain ⟨v, rfl, hv⟩ := o.one
    obtain ⟨a, us, e, hq, hl, r⟩ := R.opd hv
    exact ⟨a, us, by rw [e], .inl ⟨hq, lay_tup R r (by rw [r.length]; exact hl) h k⟩⟩
  · obtain ⟨v, rfl, hv⟩ := o.one
    rcases hv with hv | ⟨i, h1, h2⟩
    · have hv' := hv
      obtain ⟨a, us, e, hq, hl, r⟩ := hv
      subst e
      exact ⟨a, us, rfl, .inr ⟨R.sub.sqT hq, k _ _ F H h (.refl R.sub) hv'⟩⟩
    · obtain ⟨own, _, w⟩ := R.sl
      rcases h2 with h2 | ⟨_, h2⟩
      · obtain ⟨o', e, a, u, _, _, _, r⟩ := w i _ h2
        exact r.elim
      · obtain ⟨o', e, _, a, u, _, _, _, r⟩ := w i _ h2
        exact r.elim
  · exact h.elim
def rLst (K : PySem.W.Frag) : List V → Hp → VK → Prop := fun xs H Q => ∃ p ys, xs = [.ref p] ∧ (SqL K H p ys ∨ SqT K H p ys) ∧ ∀ l, H l = none → Q (.ref l) (upd H l (.lst ys))
def rdLst : List D → (D → Prop) → Prop := fun xs P => match xs with
  | [.lst ys] => P (.lst ys)
  | [.tup ys] => P (.lst ys)
  | _ => False
theorem lc_lst : LC K (rLst K.K) rdLst := by
  intro N F H σ ρ xs vs P Q R o h k
  unfold rdLst at h
  split at h
  · obtain ⟨v, rfl, hv⟩ := o.one
    obtain ⟨a, us, e, hq, hl, r⟩ := R.opd hv
    exact ⟨a, us, by rw [e], .inl hq, lay_lst R r (by rw [r.length]; exact hl) h k⟩
  · obtain ⟨v, rfl, hv⟩ := o.one
    obtain ⟨a, us, e, hq, hl, r⟩ := R.opd hv
    exact ⟨a, us, by rw [e], .inr hq, lay_lst R r (by rw [r.length]; exact hl) h k⟩
  · exact h.elim
/-- list(x), to be kept as one's own -/
theorem dv_list {X : Cx} {es : List Expr} {e : Expr} {t : TA} {ub : DTB} {x : Str} {p pos : Pos} (hg : Gl X x) (hm : X.mg x = none) (hv : bootBuiltins x = some (.type "list")) (h : DB X (e :: es) t ub)
    (hn : x ≠ "__name__" := by decide) (hdb : (x == ("__debug__" : Str)) = false := by decide) (he : starEach (e :: es) X.env = (false, eval e X.env) :: starEach es X.env := by rfl) (hpl : (backTo pos (starEach es X.env)).any (·.1) = false := by rfl) :
    DV X (.Call (.Name x p) (e :: es) [] pos) (tCB (rLst X.K) t) (vOw (dCB rdLst ub)) := ⟨pe_callTy call_list_of hg hm hv h.pa hn hdb he hpl, fun N F H σ ρ P Q R q k => by
  refine h.la N F H σ ρ _ _ R q fun xs vs F1 H1 q1 s1 R1 o => ?_
  have fin : ∀ (ys : List D) (us : List V), Reps X.kw F1 ys us → ys.length ≤ sizeLine → P (.ow (.lst ys)) ρ → ∀ l, H1 l = none → Q (.ref l) (upd H1 l (.lst us)) := fun ys us r hl hp l hn =>
    k _ _ F1 _ ρ hp s1 (.laid R1 ⟨us, rfl, by rw [← r.length]; exact hl, r⟩ hn)
  unfold rdLst at q1
  split at q1
  · obtain ⟨v, rfl, hv⟩ := o.one
    obtain ⟨a, us, e, hq, hl, r⟩ := R1.opd hv
    exact ⟨a, us, by rw [e], .inl hq, fin _ _ r (by rw [r.length]; exact hl) q1⟩
  · obtain ⟨v, rfl, hv⟩ := o.one
    obtain ⟨a, us, e, hq, hl, r⟩ := R1.opd hv
    exact ⟨a, us, by rw [e], .inr hq, fin _ _ r (by rw [r.length]; exact hl) q1⟩
  · exact q1.elim⟩
def rdSum : List D → (D → Prop) → Prop := fun xs P => match xs with
  | [.lst ys] => ∃ ns : List Int, ys = ns.map D.int ∧ P (.int ns.sum)
  | _ => False
theorem lc_sum : LC K (rSum K.K) rdSum := by
  intro N F H σ ρ xs vs P Q R o h k
  unfold rdSum at h
  split at h
  · obtain ⟨v, rfl, hv⟩ := o.one
    obtain ⟨a, us, e, hq, hl, r⟩ := R.opd hv
    obtain ⟨ns, rfl, hp⟩ := h
    rw [reps_ints r] at hq
    exact ⟨a, ns, by rw [e], hq, k _ _ F H hp (.refl R.sub) rfl⟩
  · exact h.elim
def rdAll : List D → (D → Prop) → Prop := fun xs P => match xs with
  | [.lst ys] => ∃ ns : List Bool, ys = ns.map D.bl ∧ P (.bl (ns.all id))
  | _ => False
def rdAny : List D → (D → Prop) → Prop := fun xs P => match xs with
  | [.lst ys] => ∃ ns : List Bool, ys = ns.map D.bl ∧ P (.bl (ns.any id))
  | _ => False
theorem lc_all : LC K (rAll K.K) rdAll := by
  intro N F H σ ρ xs vs P Q R o h k
  unfold rdAll at h
  split at h
  · obtain ⟨v, rfl, hv⟩ := o.one
    obtain ⟨a, us, e, hq, hl, r⟩ := R.opd hv
    obtain ⟨ns, rfl, hp⟩ := h
    rw [reps_bls r] at hq
    exact ⟨a, ns, by rw [e], hq, k _ _ F H hp (.refl R.sub) rfl⟩
  · exact h.elim
theorem lc_any : LC K (rAny K.K) rdAny := by
  intro N F H σ ρ xs vs P Q R o h k
  unfold rdAny at h
  split at h
  · obtain ⟨v, rfl, hv⟩ := o.one
    obtain ⟨a, us, e, hq, hl, r⟩ := R.opd hv
    obtain ⟨ns, rfl, hp⟩ := h
    rw [reps_bls r] at hq
    exact ⟨a, ns, by rw [e], hq, k _ _ F H hp (.refl R.sub) rfl⟩
  · exact h.elim

/-! ### in, not in -/
theorem flat_of {d : D} {v : V} (h : isFlat d = true) (r : Rep K F d v) : v = flatV d := by
  cases d <;> first | exact r | cases h
theorem flats_of : ∀ {ds : List D} {vs : List V}, ds.all isFlat = true → Reps K F ds vs → vs = ds.map flatV
  | [], _, _, r => r
  | d :: ds, _, h, ⟨v, r, e, h1, h2⟩ => by
    rw [List.all_cons, Bool.and_eq_true] at h
    rw [e, flat_of h.1 h1, flats_of h.2 h2]
    rfl
def flat1 : D → Bool
  | .non => true
  | .bl _ => true
  | .int _ => true
  | .str _ => true
  | _ => false
theorem flat1_is {d : D} (h : flat1 d = true) : isFlat d = true ∧ L2.flatV (flatV d) = true := by
  cases d <;> first | exact ⟨rfl, rfl⟩ | cases h
theorem flat1_all : ∀ {ds : List D}, ds.all flat1 = true → ds.all isFlat = true ∧ (ds.map flatV).all L2.flatV = true
  | [], _ => ⟨rfl, rfl⟩
  | d :: ds, h => by
    rw [List.all_cons, Bool.and_eq_true] at h
    obtain ⟨a, b⟩ := flat1_is h.1
    obtain ⟨c, e⟩ := flat1_all h.2
    exact ⟨by rw [List.all_cons, a, c]; rfl, by rw [List.map_cons, List.all_cons, b, e]; rfl⟩
def inD (x : D) (ys : List D) : Bool := inV (flatV x) (ys.map flatV)
def rdIn (neg : Bool) : D → D → (D → Prop) → Prop := fun x y P => match y with
  | .lst ys => flat1 x = true ∧ ys.all flat1 = true ∧ P (.bl (if neg then !inD x ys else inD x ys))
  | .tup ys => flat1 x = true ∧ ys.all flat1 = true ∧ P (.bl (if neg then !inD x ys else inD x ys))
  | _ => False
theorem opd_flat (R : RelS K N F H σ ρ) {x : D} {v : V} (h : flat1 x = true) (o : Opd K F σ ρ x v) : v = flatV x := by
  have q := R.opd o
  cases x <;> first | exact q | cases h
theorem lr_in (neg : Bool) : LR K (rIn K.K neg) (rdIn neg) := by
  intro N F H σ ρ x y v u P Q R hx hy h k
  have hb := R.opd hy
  unfold rdIn at h
  split at h
  · obtain ⟨h1, h2, hp⟩ := h
    obtain ⟨a, us, e, hq, hl, r⟩ := hb
    obtain ⟨c1, c2⟩ := flat1_all h2
    have e2 := flats_of c1 r
    have e1 := opd_flat R h1 hx
    subst e1 e2
    exact ⟨a, _, e, .inl hq, (flat1_is h1).2, c2, k _ _ F H hp (.refl R.sub) rfl⟩
  · obtain ⟨h1, h2, hp⟩ := h
    obtain ⟨a, us, e, hq, hl, r⟩ := hb
    obtain ⟨c1, c2⟩ := flat1_all h2
    have e2 := flats_of c1 r
    have e1 := opd_flat R h1 hx
    subst e1 e2
    exact ⟨a, _, e, .inr hq, (flat1_is h1).2, c2, k _ _ F H hp (.refl R.sub) rfl⟩
  · exact h.elim
/-- .. a dict -/
def rDIn (neg : Bool) : R2 := fun y x H Q => ∃ a o, x = .ref a ∧ DGet H a y o ∧ Q (.bl (if neg then !o.isSome else o.isSome)) H
theorem op_dIn {X : Cx} (hu : X.A.units + 1 < cLine) : OpR X (compareOp .In) (rDIn false) := by
  intro pins s σ H x y v u Q I rx ry h
  obtain ⟨a, o, rfl, g, q⟩ := h
  cases ry
  exact d_in hu I g rx fun s3 I3 => ⟨.bl o.isSome, H, I3, rfl, q⟩
theorem op_dNotIn {X : Cx} (hu : X.A.units + 1 < cLine) : OpR X (compareOp .NotIn) (rDIn true) := by
  intro pins s σ H x y v u Q I rx ry h
  obtain ⟨a, o, rfl, g, q⟩ := h
  cases ry
  exact d_notIn hu I g rx fun s3 I3 => ⟨.bl (!o.isSome), H, I3, rfl, q⟩
def hasK {κ : Type} [DecidableEq κ] (ks : List κ) (k : κ) : Bool := ks.any fun j => decide (j = k)
def rdDIn (neg : Bool) : D → D → (D → Prop) → Prop := fun x y P => match y with
  | .dk ks _ => ∃ k, dkey x = some k ∧ P (.bl (if neg then !hasK ks k else hasK ks k))
  | _ => False
theorem valV_mem {κ : Type} [DecidableEq κ] {k : κ} : ∀ {ks : List κ} {vs : List V}, ks.length = vs.length → (valV (ks.zip vs) k).isSome = hasK ks k
  | [], _, _ => rfl
  | k0 :: ks, v :: vs, h => by
    have ih := valV_mem (k := k) (ks := ks) (vs := vs) (by simpa using h)
    by_cases hk : k0 = k
    · simp [valV, hk, hasK]
    · rw [List.zip_cons_cons, valV_neg hk, ih]
      simp [hasK, hk]
  | _ :: _, [], h => by simp at h
theorem lr_dIn (neg : Bool) : LR K (rDIn neg) (rdDIn neg) := by
  intro N F H σ ρ x y v u P Q R hx hy h k
  have hb := R.opd hy
  unfold rdDIn at h
  split at h
  · obtain ⟨kk, hk, hp⟩ := h
    obtain ⟨a, us, e, hq, hl, r⟩ := hb
    refine ⟨a, _, e, .inl ⟨_, kk, hq, dkey_rep hk (R.opd hx), rfl⟩, ?_⟩
    rw [valV_mem hl]
    exact k _ _ F H hp (.refl R.sub) rfl
  · exact h.elim

/-! ### ==, != of data to any depth -/
mutual
def toPy : D → Option PyData
  | .non => some .none
  | .bl b => some (.bool b)
  | .int i => some (.int i)
  | .str x => some (.str x)
  | .tup xs => (toPys xs).map PyData.tuple
  | .lst xs => (toPys xs).map PyData.list
  | _ => none
def toPys : List D → Option (List PyData)
  | [] => some []
  | d :: ds => (toPy d).bind fun x => (toPys ds).map fun xs => x :: xs
end
mutual
theorem dp_of (s : Sub F H) : ∀ {d : D} {v : V} {p : PyData}, Rep K F d v → toPy d = some p → Dp K.K H v p
  | .non, _, _, r, e => by cases r; cases e; exact .non
  | .bl b, _, _, r, e => by cases r; cases e; exact .bl b
  | .int i, _, _, r, e => by cases r; cases e; exact .int i
  | .str x, _, _, r, e => by cases r; cases e; exact .str x
  | .tup xs, _, _, ⟨a, vs, e1, hq, hl, r⟩, e => by
    obtain ⟨ps, h1, h2⟩ := Option.map_eq_some_iff.mp (show (toPys xs).map PyData.tuple = _ from e)
    subst e1 h2
    exact .tup (s.sqT hq) (dps_of s r h1)
  | .lst xs, _, _, ⟨a, vs, e1, hq, hl, r⟩, e => by
    obtain ⟨ps, h1, h2⟩ := Option.map_eq_some_iff.mp (show (toPys xs).map PyData.list = _ from e)
    subst e1 h2
    exact .lst (s.sqL hq) (dps_of s r h1)
  | .rf _, _, _, _, e => by cases e
  | .dk _ _, _, _, _, e => by cases e
  | .dn _ _, _, _, _, e => by cases e
  | .ins _ _ _, _, _, _, e => by cases e
  | .ab _, _, _, _, e => by cases e
theorem dps_of (s : Sub F H) : ∀ {ds : List D} {vs : List V} {ps : List PyData}, Reps K F ds vs → toPys ds = some ps → DpAll K.K H vs ps
  | [], _, _, r, e => by rw [show _ = [] from r]; cases e; exact .nil
  | d :: ds, _, _, ⟨v, r, e1, h1, h2⟩, e => by
    obtain ⟨p, hp, e⟩ := Option.bind_eq_some_iff.mp (show (toPy d).bind _ = _ from e)
    obtain ⟨ps, hps, e⟩ := Option.map_eq_some_iff.mp e
    subst e1 e
    exact .cons (dp_of s h1 hp) (dps_of s h2 hps)
end
theorem dp_opd (R : RelS K N F H σ ρ) {x : D} {v : V} {p : PyData} (o : Opd K F σ ρ x v) (e : toPy x = some p) : Dp K.K H v p := by
  rcases o with o | ⟨i, h1, h2⟩
  · exact dp_of R.sub o e
  · obtain ⟨own, _, w⟩ := R.sl
    obtain ⟨a, u, e1, _, hh, sh⟩ : ∃ a u, some v = some (.ref a) ∧ True ∧ H a = some u ∧ Shape K F a x u := by
      rcases h2 with h2 | ⟨_, h2⟩
      · obtain ⟨o', e', a, u, e1, _, hh, sh⟩ := w i _ h2
        rw [h1] at e'; cases e'
        exact ⟨a, u, e1, trivial, hh, sh⟩
      · obtain ⟨o', e', _, a, u, e1, _, hh, sh⟩ := w i _ h2
        rw [h1] at e'; cases e'
        exact ⟨a, u, e1, trivial, hh, sh⟩
    cases e1
    cases x with
    | lst ds =>
      obtain ⟨vs, e2, _, r⟩ := sh
      subst e2
      obtain ⟨ps, h1, h2⟩ := Option.map_eq_some_iff.mp (show (toPys ds).map PyData.list = _ from e)
      subst h2
      exact .lst (SqL.of hh) (dps_of R.sub r h1)
    | dk _ _ => cases e
    | dn _ _ => cases e
    | ins _ _ _ => cases e
    | _ => exact sh.elim
def rdEqD : D → D → (D → Prop) → Prop := fun x y P => ∃ d e, toPy x = some d ∧ toPy y = some e ∧ SeqAt.shaped d = true ∧ SeqAt.shaped e = true ∧ P (.bl (PyData.eqv d e))
def rdNeD : D → D → (D → Prop) → Prop := fun x y P => ∃ d e, toPy x = some d ∧ toPy y = some e ∧ SeqAt.shaped d = true ∧ SeqAt.shaped e = true ∧ P (.bl (!PyData.eqv d e))
theorem lr_eqD : LR K (rEqD K.K) rdEqD := by
  intro N F H σ ρ x y v u P Q R hx hy h k
  obtain ⟨d, e, h1, h2, h3, h4, hp⟩ := h
  exact ⟨d, e, dp_opd R hx h1, dp_opd R hy h2, h3, h4, k _ _ F H hp (.refl R.sub) rfl⟩
theorem lr_neD : LR K (rNeD K.K) rdNeD := by
  intro N F H σ ρ x y v u P Q R hx hy h k
  obtain ⟨d, e, h1, h2, h3, h4, hp⟩ := h
  exact ⟨d, e, dp_opd R hx h1, dp_opd R hy h2, h3, h4, k _ _ F H hp (.refl R.sub) rfl⟩
end
end Dc

namespace Dc
open PySem PySem.Spec
open PyProof.Rows L2
variable [TabsT]

/-! ### the def's own objects, changed -/
section
variable {K : KW} {N : En} {F H : Hp} {σ : L2.St} {ρ : Rho}
theorem RelS.owAt0 (R : RelS K N F H σ ρ) {own : Addr → Option Nat} (w1 : ∀ a i, own a = some i → F a = none ∧ N.H0 a = none ∧ H a ≠ none) (w2 : ∀ i s, ρ[i]? = some s → ∃ o, σ[i]? = some o ∧ RelSl K F H own i s o) {i : Nat} {x : D} {o : Option V} (hl : i < ρ.length) (e : σ[i]? = some o) (r : RelO1 K F H own i x o) :
    ∃ a o, σ[i]? = some (some (.ref a)) ∧ H a = some o ∧ Shape K F a x o ∧ F a = none ∧ ∀ x' o', Shape K F a x' o' → RelS K N F (upd H a o') σ (ρ.set i (.ow x')) ∧ RelS K N F (upd H a o') σ (ρ.set i (.my a x')) := by
  obtain ⟨a, u, ea, wa, ha, sh⟩ := r
  obtain ⟨q1, q2, q3⟩ := w1 a i wa
  refine ⟨a, u, by rw [e, ea], ha, sh, q1, fun x' o' sh' => ?_⟩
  have main : ∀ s' : Sl, (RelSl K F (upd H a o') own i s' o) → RelS K N F (upd H a o') σ (ρ.set i s') := fun s' rs => by
    refine ⟨fun b v eb => ?_, R.frz0, R.new, fun b v eb nt => ?_, fun b eb => ?_, tabs_upd R.tb ha sh.nt sh.nc, tt_upd R.tt ha sh.nt, fun p hp => ?_, fun b ob v eb => ?_, own, fun b j eb => ?_, fun j s es => ?_⟩
    · have hb : b ≠ a := fun z => by rw [z, q1] at eb; cases eb
      rw [upd_ne hb]; exact R.sub b v eb
    · have hb : b ≠ a := fun z => by rw [z, q2] at eb; cases eb
      rw [upd_ne hb]; exact R.old b v eb nt
    · have hb : b ≠ a := fun z => by rw [z, upd_same] at eb; cases eb
      rw [upd_ne hb] at eb
      exact R.nn b eb
    · have hb : p.1 ≠ a := fun z => by
        have y := (R.lk p hp).2
        rw [z, ha] at y
        cases y
        exact sh.nofrz
      exact ⟨(R.lk p hp).1, by rw [upd_ne hb]; exact (R.lk p hp).2⟩
    · by_cases hb : b = a
      · subst hb; rw [upd_same] at eb; cases eb; exact absurd sh' Shape.nofrz
      · rw [upd_ne hb] at eb; exact R.fz b ob v eb
    · obtain ⟨z1, z2, z3⟩ := w1 b j eb
      refine ⟨z1, z2, ?_⟩
      by_cases hb : b = a
      · rw [hb, upd_same]; simp
      · rw [upd_ne hb]; exact z3
    · by_cases hj : j = i
      · subst hj
        rw [List.getElem?_set_self hl] at es
        cases es
        exact ⟨o, e, rs⟩
      · rw [List.getElem?_set_ne (Ne.symm hj)] at es
        obtain ⟨o2, e2, r2⟩ := w2 j s es
        refine ⟨o2, e2, ?_⟩
        cases s with
        | no => trivial
        | sh d => exact r2
        | ow d =>
          obtain ⟨b, w, p1, p2, p3, p4⟩ := r2
          have na : b ≠ a := fun z => by rw [z, wa] at p2; cases p2; exact hj rfl
          exact ⟨b, w, p1, p2, by rw [upd_ne na]; exact p3, p4⟩
        | my _ d =>
          obtain ⟨p0, b, w, p1, p2, p3, p4⟩ := r2
          have na : b ≠ a := fun z => by rw [z, wa] at p2; cases p2; exact hj rfl
          exact ⟨p0, b, w, p1, p2, by rw [upd_ne na]; exact p3, p4⟩
  exact ⟨main _ ⟨a, o', ea, wa, upd_same, sh'⟩, main _ ⟨ea, a, o', ea, wa, upd_same, sh'⟩⟩
theorem RelS.owAt (R : RelS K N F H σ ρ) {i : Nat} {x : D} (h : ρ[i]? = some (.ow x)) :
    ∃ a o, σ[i]? = some (some (.ref a)) ∧ H a = some o ∧ Shape K F a x o ∧ F a = none ∧ ∀ x' o', Shape K F a x' o' → RelS K N F (upd H a o') σ (ρ.set i (.ow x')) := by
  obtain ⟨own, w1, w2⟩ := R.sl
  obtain ⟨o, e, r⟩ := w2 i _ h
  obtain ⟨a, u, h1, h2, h3, h4, h5⟩ := R.owAt0 w1 w2 (List.getElem?_eq_some_iff.mp h).1 e r
  exact ⟨a, u, h1, h2, h3, h4, fun x' o' s => (h5 x' o' s).1⟩
theorem RelS.myAt (R : RelS K N F H σ ρ) {i : Nat} {a : Addr} {x : D} (h : ρ[i]? = some (.my a x)) :
    ∃ o, σ[i]? = some (some (.ref a)) ∧ H a = some o ∧ Shape K F a x o ∧ F a = none ∧ ∀ x' o', Shape K F a x' o' → RelS K N F (upd H a o') σ (ρ.set i (.my a x')) := by
  obtain ⟨own, w1, w2⟩ := R.sl
  obtain ⟨o, e, e0, r⟩ := w2 i _ h
  obtain ⟨a', u, h1, h2, h3, h4, h5⟩ := R.owAt0 w1 w2 (List.getElem?_eq_some_iff.mp h).1 e r
  rw [e, e0] at h1
  cases h1
  exact ⟨u, by rw [e, e0], h2, h3, h4, fun x' o' s => (h5 x' o' s).2⟩
/-! name[index] = value -/
def LSet (K : KW) (r : TSet) (sd : D → D → D → (D → Prop) → Prop) : Prop := ∀ (F H : Hp) (a : Addr) (o : HO) (x y z : D) (u w : V) (P : D → Prop) (Q : Hp → Prop), Sub F H → H a = some o → Shape K F a x o → Rep K F y u → Rep K F z w → sd x y z P →
  (∀ x' o', P x' → Shape K F a x' o' → Q (upd H a o')) → r (.ref a) u w H Q
def sdL : D → D → D → (D → Prop) → Prop := fun x y z P => match x, y with
  | .lst xs, .int k => ∃ j, ixN xs.length k = some j ∧ P (.lst (xs.set j z))
  | _, _ => False
theorem ls_list : LSet K rSetL sdL := by
  intro F H a o x y z u w P Q sb hH sh ry rz h k
  unfold sdL at h
  split at h
  · obtain ⟨j, hj, hp⟩ := h
    obtain ⟨vs, rfl, hl, r⟩ := sh
    cases ry
    exact ⟨a, vs, _, j, rfl, rfl, hH, by rw [← r.length]; exact hj, k _ _ hp ⟨_, rfl, by simpa using hl, r.set j rz⟩⟩
  · exact h.elim
/-- a dict's keys and values, one more put in -/
def dputK {κ : Type} [DecidableEq κ] (ks : List κ) (k : κ) : List κ := if hasK ks k then ks else ks ++ [k]
def dputX {κ α : Type} [DecidableEq κ] (ks : List κ) (xs : List α) (k : κ) (y : α) : List α := if hasK ks k then List.zipWith (fun j x => if j = k then y else x) ks xs else xs ++ [y]
theorem Reps.zipW {κ : Type} [DecidableEq κ] {k : κ} {y : D} {u : V} (ry : Rep K F y u) : ∀ {ks : List κ} {xs : List D} {vs : List V}, Reps K F xs vs → Reps K F (List.zipWith (fun j x => if j = k then y else x) ks xs) (List.zipWith (fun j x => if j = k then u else x) ks vs)
  | [], _, _, _ => by simp; exact Reps.nil
  | _ :: _, [], vs, r => by cases (show vs = [] from r); simp; exact Reps.nil
  | k0 :: ks, x :: xs, vs, ⟨v, r, e, h1, h2⟩ => by
    subst e
    rw [List.zipWith_cons_cons, List.zipWith_cons_cons]
    refine .cons ?_ (Reps.zipW ry h2)
    by_cases hk : k0 = k
    · rw [if_pos hk, if_pos hk]; exact ry
    · rw [if_neg hk, if_neg hk]; exact h1
theorem hasK_any {κ : Type} [DecidableEq κ] {k : κ} : ∀ {ks : List κ} {vs : List V}, ks.length = vs.length → ((ks.zip vs).any fun kv => decide (kv.1 = k)) = hasK ks k
  | [], _, _ => rfl
  | k0 :: ks, v :: vs, h => by
    rw [List.zip_cons_cons, List.any_cons, hasK_any (by simpa using h)]
    rfl
  | _ :: _, [], h => by simp at h
theorem map_zip {κ : Type} [DecidableEq κ] {k : κ} {u : V} : ∀ {ks : List κ} {vs : List V}, ks.length = vs.length → (ks.zip vs).map (fun kv => if kv.1 = k then (kv.1, u) else kv) = ks.zip (List.zipWith (fun j x => if j = k then u else x) ks vs)
  | [], _, _ => rfl
  | k0 :: ks, v :: vs, h => by
    rw [List.zip_cons_cons, List.map_cons, map_zip (by simpa using h), List.zipWith_cons_cons, List.zip_cons_cons]
    by_cases hk : k0 = k
    · rw [if_pos hk, if_pos hk]
    · rw [if_neg hk, if_neg hk]
  | _ :: _, [], h => by simp at h
theorem putK_zip {κ : Type} [DecidableEq κ] {ks : List κ} {vs : List V} {k : κ} {u : V} (h : ks.length = vs.length) : putK (ks.zip vs) k u = (dputK ks k).zip (dputX ks vs k u) := by
  unfold putK dputK dputX
  rw [hasK_any h]
  cases hasK ks k with
  | true => rw [if_pos rfl, if_pos rfl, if_pos rfl]; exact map_zip h
  | false =>
    rw [if_neg Bool.false_ne_true, if_neg Bool.false_ne_true, if_neg Bool.false_ne_true]
    rw [List.zip_append h]
    rfl
theorem dput_len {κ α : Type} [DecidableEq κ] {ks : List κ} {vs : List α} {k : κ} {u : α} (h : ks.length = vs.length) : (dputK ks k).length = (dputX ks vs k u).length := by
  unfold dputK dputX
  cases hasK ks k <;> simp [h]
theorem Reps.dput {κ : Type} [DecidableEq κ] {ks : List κ} {xs : List D} {vs : List V} {k : κ} {y : D} {u : V} (r : Reps K F xs vs) (ry : Rep K F y u) : Reps K F (dputX ks xs k y) (dputX ks vs k u) := by
  unfold dputX
  cases hasK ks k with
  | true => rw [if_pos rfl, if_pos rfl]; exact r.zipW ry
  | false => rw [if_neg Bool.false_ne_true, if_neg Bool.false_ne_true]; exact r.append (.one ry)
def sdD : D → D → D → (D → Prop) → Prop := fun x y z P => match x with
  | .dk ks xs => ∃ k, dkey y = some k ∧ ks.length < sizeLine ∧ P (.dk (dputK ks k) (dputX ks xs k z))
  | _ => False
theorem dkey_rep' {y : D} {k : Key} {u : V} (h : dkey y = some k) (r : Rep K F y u) : u = kV k := by
  cases y with
  | int i => cases h; exact r
  | str x => cases h; exact r
  | _ => cases h
theorem ls_dict : LSet K rSetD sdD := by
  intro F H a o x y z u w P Q sb hH sh ry rz h k
  unfold sdD at h
  split at h
  · obtain ⟨kk, hk, hl, hp⟩ := h
    obtain ⟨vs, rfl, hz, r⟩ := sh
    have e := dkey_rep' hk ry
    subst e
    refine ⟨a, _, rfl, DPut.k hH (by rw [zip_len hz]; exact hl), ?_⟩
    rw [putK_zip hz]
    exact k _ _ hp ⟨_, rfl, dput_len hz, r.dput rz⟩
  · exact h.elim
variable {X : Cx} {pos p p2 : Pos} {e ix : Expr} {te ti : TE} {de di : DTE}
def sPut (i : Nat) (sd : D → D → D → (D → Prop) → Prop) (de di : DTE) : DTS := fun D ρ => de ρ fun z ρ1 => (∃ x, ρ1[i]? = some (.ow x)) ∧ di ρ1 fun y ρ2 => ∃ x, ρ2[i]? = some (.ow x) ∧ sd x y z fun x' => D.nx (ρ2.set i (.ow x'))
theorem ds_put {r : TSet} {sd : D → D → D → (D → Prop) → Prop} (i : Nat) {x : Str} (hs : PSet X r) (l : LSet X.kw r sd) (h : DE X e te de) (hi : DE X ix ti di) (hN : X.N[i]? = some x := by rfl) (hv : Vis X.env.scope x := by first | exact Or.inl rfl | exact Or.inr (Or.inl rfl) | exact Or.inr (Or.inr rfl)) (hd : (x == ("__debug__" : Str)) = false := by decide)
    (hcd : (x == ("__classdict__" : Str)) = false := by decide)
    (ha : ∀ v, assign (.Subscript (.Name x p) ix p2) X.env v = (do
      let ov ← holding [v] (eval (.Name x p) X.env)
      let iv ← holding [v, ov] (eval ix X.env)
      standAt p2
      holding [v, ov, iv] (setItem ov iv v)
      release [v, ov, iv] []) := by intro _; rfl)
    (hsw : swapsWithSole [.Subscript (.Name x p) ix p2] e pos.line X.env = pure false := by rfl) (hw : swappedStores [.Subscript (.Name x p) ix p2] e X.env = pure none := by rfl)
    (h1 : (assignEach [.Subscript (.Name x p) ix p2] X.env).map (·.2) = [assign (.Subscript (.Name x p) ix p2) X.env] := by rfl) :
    DS X (.Assign [.Subscript (.Name x p) ix p2] e pos) (tAsg te (gSub (tVar i) ti r)) (sPut i sd de di) :=
  ⟨ps_asg h.pe (pg_sub (pe_var hN hv hd hcd) hi.pe hs ha) hsw hw h1, fun N F H σ ρ D E R hl q k => by
    refine h.le N F H σ ρ _ _ R q fun z w F1 H1 ρ1 q1 s1 R1 r1 => ?_
    obtain ⟨⟨x0, hx0⟩, q1⟩ := q1
    obtain ⟨a0, _, ea, _⟩ := R1.owAt hx0
    refine ⟨_, ea, ?_⟩
    refine hi.le N F1 H1 σ ρ1 _ _ R1 q1 fun y u F2 H2 ρ2 q2 s2 R2 r2 => ?_
    obtain ⟨x, hx, q2⟩ := q2
    obtain ⟨a, o, ea2, hH, sh, _, fin⟩ := R2.owAt hx
    rw [ea] at ea2
    cases ea2
    exact l F2 H2 a0 o x y z u w _ _ R2.sub hH sh r2 (r1.mono s2) q2 fun x' o' p sh' => k.nx F2 _ σ _ p (s1.trans s2) (fin x' o' sh') rfl⟩
end
end Dc

namespace Dc
open PySem PySem.Spec
open PyProof.Rows L2
variable [TabsT]

/-! ### methods of one's own list -/
section
variable {X : Cx} {pos : Pos} {e f o : Expr} {es : List Expr} {te tf to : TE} {de df dd : DTE} {t : TA} {u : DTA}
/-- a method's reading by one of data: what stood, the arguments; the answer, what stands then -/
abbrev MD := D → List D → (D → D → Prop) → Prop
def LMt (K : KW) (r : V → List V → Hp → VK → Prop) (sd : MD) : Prop := ∀ (F H : Hp) (a : Addr) (o : HO) (x : D) (ys : List D) (us : List V) (P : D → D → Prop) (Q : VK), Sub F H → F a = none → H a = some o → Shape K F a x o → Reps K F ys us → sd x ys P →
  (∀ z w x' o', P z x' → Rep K F z w → Shape K F a x' o' → Q w (upd H a o')) → r (.ref a) us H Q
def dMt (i : Nat) (sd : MD) (u : DTA) : DTE := fun ρ P => (∃ xs, ρ[i]? = some (.ow (.lst xs))) ∧ u ρ fun ys ρ1 => ∃ x, ρ1[i]? = some (.ow x) ∧ sd x ys fun z x' => P z (ρ1.set i (.ow x'))
theorem le_mt {r : V → List V → Hp → VK → Prop} {sd : MD} {i : Nat} (l : LMt X.kw r sd) (h : ∀ (N : En) (F H : Hp) (σ : L2.St) (ρ : Rho) (P : List D → Rho → Prop) (Q : List V → Hp → Prop), RelS X.kw N F H σ ρ → u ρ P →
    (∀ xs vs F' H' ρ', P xs ρ' → Same F F' → RelS X.kw N F' H' σ ρ' → Reps X.kw F' xs vs → Q vs H') → t σ H Q)
    (N : En) (F H : Hp) (σ : L2.St) (ρ : Rho) (P : D → Rho → Prop) (Q : VK) (R : RelS X.kw N F H σ ρ) (q : dMt i sd u ρ P)
    (k : ∀ x v F' H' ρ', P x ρ' → Same F F' → RelS X.kw N F' H' σ ρ' → Rep X.kw F' x v → Q v H') : tBM X.K "list" r (tVar i) t σ H Q := by
  obtain ⟨⟨xs, hx⟩, q⟩ := q
  obtain ⟨a, o, ea, hH, ⟨vs, eo, _, _⟩, _⟩ := R.owAt hx
  refine ⟨_, ea, .inl ⟨rfl, vs, SqL.of (by rw [hH, eo])⟩, ?_⟩
  refine h N F H σ ρ _ _ R q fun ys us F1 H1 ρ1 q1 s1 R1 r1 => ?_
  obtain ⟨x, hx1, q1⟩ := q1
  obtain ⟨a1, o1, ea1, hH1, sh, hF1, fin⟩ := R1.owAt hx1
  rw [ea] at ea1
  cases ea1
  exact l F1 H1 a o1 x ys us _ Q R1.sub hF1 hH1 sh r1 q1 fun z w x' o' p rz sh' => k z w F1 _ _ p s1 (fin x' o' sh') rz
theorem de_bm {name : Str} {id : String} {r : V → List V → Hp → VK → Prop} {sd : MD} {x : Str} {p apos : Pos} (i : Nat) (slot : Slot "list" name id) (hty : typeOf (.builtin id) = pure (.type "method_descriptor")) (hm : MtR X id r) (l : LMt X.kw r sd) (ha : DA X (e :: es) t u)
    (hN : X.N[i]? = some x := by rfl) (hv : Vis X.env.scope x := by first | exact Or.inl rfl | exact Or.inr (Or.inl rfl) | exact Or.inr (Or.inr rfl)) (hd : (x == ("__debug__" : Str)) = false := by decide)
    (hcd : (x == ("__classdict__" : Str)) = false := by decide)
    (hbase : attributeBase (.Name x p) name X.env (eval (.Name x p) X.env) = eval (.Name x p) X.env := by rfl)
    (hfew : ((backTo pos (starEach (e :: es) X.env)).all (fun x => !x.1) && (backToKw pos (keywordEach [] X.env)).all (fun x => x.1.isSome)
      && decide ((e :: es).length + ([] : List Keyword).length + (if ([] : List Keyword).isEmpty then 0 else 1) < 30)) = true := by rfl)
    (hline : (apos.endLine == pos.line) = true := by rfl) (hs : starEach (e :: es) X.env = (false, eval e X.env) :: starEach es X.env := by rfl) (hplain : (backTo pos (starEach es X.env)).any (·.1) = false := by rfl) :
    DE X (.Call (.Attribute (.Name x p) name apos) (e :: es) [] pos) (tBM X.K "list" r (tVar i) t) (dMt i sd u) := ⟨pe_bm PySem.F.plainAttrs_list slot hty hm (pe_var hN hv hd hcd) ha.pa hbase hfew hline hs hplain, le_mt l ha.la⟩
theorem de_bm0 {name : Str} {id : String} {r : V → List V → Hp → VK → Prop} {sd : MD} {x : Str} {p apos : Pos} (i : Nat) (slot : Slot "list" name id) (hty : typeOf (.builtin id) = pure (.type "method_descriptor")) (hm : MtR X id r) (l : LMt X.kw r sd)
    (hN : X.N[i]? = some x := by rfl) (hv : Vis X.env.scope x := by first | exact Or.inl rfl | exact Or.inr (Or.inl rfl) | exact Or.inr (Or.inr rfl)) (hd : (x == ("__debug__" : Str)) = false := by decide)
    (hcd : (x == ("__classdict__" : Str)) = false := by decide)
    (hbase : attributeBase (.Name x p) name X.env (eval (.Name x p) X.env) = eval (.Name x p) X.env := by rfl) (hline : (apos.endLine == pos.line) = true := by rfl) :
    DE X (.Call (.Attribute (.Name x p) name apos) [] [] pos) (tBM0 X.K "list" r (tVar i)) (dMt i sd dNil) := ⟨pe_bm0 PySem.F.plainAttrs_list slot hty hm (pe_var hN hv hd hcd) hbase hline, fun N F H σ ρ P Q R q k => by
  have := le_mt (X := X) (r := r) (t := tNil) l (da_nil (X := X)).la N F H σ ρ P Q R q k
  exact this⟩
def mdAppend : MD := fun x ys P => match x, ys with
  | .lst xs, [y] => xs.length < sizeLine ∧ P .non (.lst (xs ++ [y]))
  | _, _ => False
theorem lm_append {K : KW} : LMt K rAppend mdAppend := by
  intro F H a o x ys us P Q sb hF hH sh ry h k
  unfold mdAppend at h
  split at h
  · obtain ⟨hl, hp⟩ := h
    obtain ⟨vs, rfl, hz, r⟩ := sh
    obtain ⟨v, w, e, h1, h2⟩ := ry
    cases (show w = [] from h2)
    exact ⟨a, vs, v, rfl, e, hH, by rw [← r.length]; exact hl, k _ _ _ _ hp rfl ⟨vs ++ [v], rfl, by rw [List.length_append, ← r.length]; simp; omega, r.append (.one h1)⟩⟩
  · exact h.elim
def mdPop : MD := fun x ys P => match x, ys with
  | .lst xs, [] => ∃ y, xs[xs.length - 1]? = some y ∧ P y (.lst xs.dropLast)
  | _, _ => False
theorem lm_pop {K : KW} : LMt K rPop mdPop := by
  intro F H a o x ys us P Q sb hF hH sh ry h k
  unfold mdPop at h
  split at h
  · obtain ⟨y, hy, hp⟩ := h
    obtain ⟨vs, rfl, hz, r⟩ := sh
    obtain ⟨v, e, rv⟩ := r.get hy
    exact ⟨a, vs, v, rfl, ry, hH, by rw [← r.length]; exact e, k _ _ _ _ hp rv ⟨vs.dropLast, rfl, by simp; omega, r.dropLast⟩⟩
  · exact h.elim
def mdPopAt : MD := fun x ys P => match x, ys with
  | .lst xs, [.int i] => -(2 ^ 63) ≤ i ∧ i < 2 ^ 63 ∧ ∃ k y, seqIndex? i xs.length = some k ∧ xs[k]? = some y ∧ P y (.lst (xs.eraseIdx k))
  | _, _ => False
theorem lm_popAt {K : KW} : LMt K rPopAt mdPopAt := by
  intro F H a o x ys us P Q sb hF hH sh ry h k
  unfold mdPopAt at h
  split at h
  · obtain ⟨h1, h2, j, y, hj, hy, hp⟩ := h
    obtain ⟨vs, rfl, hz, r⟩ := sh
    obtain ⟨v, w, e, h3, h4⟩ := ry
    cases (show w = [] from h4)
    cases h3
    obtain ⟨v, e1, rv⟩ := r.get hy
    exact ⟨a, vs, _, j, v, rfl, e, hH, h1, h2, by rw [← r.length]; exact hj, e1, k _ _ _ _ hp rv ⟨vs.eraseIdx j, rfl, Nat.le_trans (len_erase _ _) hz, r.eraseIdx j⟩⟩
  · exact h.elim
def mdExtend : MD := fun x ys P => match x, ys with
  | .lst xs, [.lst zs] => xs.length + zs.length ≤ sizeLine ∧ P .non (.lst (xs ++ zs))
  | _, _ => False

/-! ### d.get(k, x) -/
def dGet2 (dd de df : DTE) : DTE := fun ρ P => dd ρ fun x ρ1 => (match x with
  | .dk _ _ => True
  | _ => False) ∧ de ρ1 fun y ρ2 => ρ2 = ρ1 ∧ df ρ2 fun z ρ3 => ρ3 = ρ2 ∧ match x with
    | .dk ks xs => ∃ k, dkey y = some k ∧ P ((getD' ks xs k).getD z) ρ3
    | _ => False
theorem de_get2 {apos : Pos} (hu : X.A.units + 1 < cLine) (ho : DC X o to dd) (he : DE X e te de) (hf : DE X f tf df) (m : M2 X o "get" apos e f pos := by exact ⟨rfl, rfl, rfl, rfl⟩) : DE X (.Call (.Attribute o "get" apos) [e, f] [] pos) (tDGet2 to te tf) (dGet2 dd de df) :=
  ⟨pe_dget2 hu ho.pe he.pe hf.pe m, fun N F H σ ρ P Q R q k => by
    refine ho.le N F H σ ρ _ _ R q fun x v F1 H1 ρ1 q1 s1 R1 r1 => ?_
    obtain ⟨hx, q1⟩ := q1
    cases x with
    | dk ks xs =>
      obtain ⟨a, vs, ev, hq, hl, rr⟩ := R1.opd r1
      refine ⟨a, ev, .inl ⟨_, hq⟩, ?_⟩
      refine he.le N F1 H1 σ ρ1 _ _ R1 q1 fun y w F2 H2 ρ2 q2 s2 R2 r2 => ?_
      obtain ⟨e2, q2⟩ := q2
      subst e2
      refine hf.le N F2 H2 σ ρ2 _ _ R2 q2 fun z u F3 H3 ρ3 q3 s3 R3 r3 => ?_
      obtain ⟨e3, kk, hk, hp⟩ := q3
      subst e3
      obtain ⟨a', vs', ev', hq', hl', rr'⟩ := R3.opd (r1.mono (s2.trans s3))
      rw [ev] at ev'
      cases ev'
      have ew := dkey_rep' hk r2
      subst ew
      refine ⟨_, .inl ⟨_, kk, hq', rfl, rfl⟩, ?_⟩
      have z1 := valV_rep (ks := ks) (k := kk) rr'
      cases eg : getD' ks xs kk with
      | none =>
        rw [eg] at z1 hp
        rw [z1]
        exact k _ _ F3 H3 ρ3 hp ((s1.trans s2).trans s3) R3 r3
      | some y' =>
        rw [eg] at z1 hp
        obtain ⟨w', ew', rw'⟩ := z1
        rw [ew']
        exact k _ _ F3 H3 ρ3 hp ((s1.trans s2).trans s3) R3 rw'
    | _ => exact hx.elim⟩

/-! ### isinstance -/
inductive Ty where
  | tL | tT | tI | tB | tS | tD
def Ty.name : Ty → String
  | .tL => "list" | .tT => "tuple" | .tI => "int" | .tB => "bool" | .tS => "str" | .tD => "dict"
def tyN : D → Option String
  | .non => some "NoneType"
  | .bl _ => some "bool"
  | .int _ => some "int"
  | .str _ => some "str"
  | .tup _ => some "tuple"
  | .lst _ => some "list"
  | .dk _ _ => some "dict"
  | _ => none
def isD (T : Ty) : D → Option Bool
  | .non => some false
  | .bl _ => some (match T with | .tI => true | .tB => true | _ => false)
  | .int _ => some (match T with | .tI => true | _ => false)
  | .str _ => some (match T with | .tS => true | _ => false)
  | .tup _ => some (match T with | .tT => true | _ => false)
  | .lst _ => some (match T with | .tL => true | _ => false)
  | .dk _ _ => some (match T with | .tD => true | _ => false)
  | _ => none
theorem kit_tab : ∀ T : Ty, kitB "NoneType" T.name = some false ∧ kitB "bool" T.name = some (match T with | .tI => true | .tB => true | _ => false) ∧ kitB "int" T.name = some (match T with | .tI => true | _ => false) ∧ kitB "str" T.name = some (match T with | .tS => true | _ => false) ∧
    kitB "tuple" T.name = some (match T with | .tT => true | _ => false) ∧ kitB "list" T.name = some (match T with | .tL => true | _ => false) ∧ kitB "dict" T.name = some (match T with | .tD => true | _ => false) := by
  intro T
  cases T <;> exact ⟨by decide +kernel, by decide +kernel, by decide +kernel, by decide +kernel, by decide +kernel, by decide +kernel, by decide +kernel⟩
theorem tyx_of {K : KW} {F H : Hp} {x : D} {v : V} {n : String} (h : tyN x = some n) (r : RepB K F H x v) : TyX K.K H v (.type n) := by
  cases x with
  | non => cases h; cases r; exact .base .non
  | bl b => cases h; cases r; exact .base (.bl b)
  | int i => cases h; cases r; exact .base (.int i)
  | str s => cases h; cases r; exact .base (.str s)
  | tup xs =>
    cases h
    obtain ⟨a, vs, e, hq, _⟩ := r
    subst e
    rcases hq with (hq | ⟨o, hq⟩) | ⟨o, its, n, hk, hc, _⟩
    · exact .base (.tup hq)
    · exact .fTuple hq
    · exact .kTuple hk hc
  | lst xs =>
    cases h
    obtain ⟨a, vs, e, hq, _⟩ := r
    subst e
    rcases hq with (hq | ⟨o, hq⟩) | ⟨o, its, n, hk, hc, _⟩
    · exact .base (.lst hq)
    · exact .base (.frz hq)
    · exact .kList hk hc
  | dk ks xs =>
    cases h
    obtain ⟨a, vs, e, hq, _⟩ := r
    subst e
    rcases hq with hq | ⟨o, hq⟩
    · exact .base (.dK hq)
    · exact .fDict hq
  | _ => cases h
theorem kit_D {K : PySem.W.Frag} {T : Ty} {x : D} {b : Bool} (h : isD T x = some b) : ∃ n, tyN x = some n ∧ PySem.W.kitOne K (.type n) (.type T.name) = some b := by
  obtain ⟨h1, h2, h3, h4, h5, h6, h7⟩ := kit_tab T
  cases x with
  | non => cases h; exact ⟨_, rfl, kit_ty h1⟩
  | bl b => cases h; exact ⟨_, rfl, kit_ty h2⟩
  | int i => cases h; exact ⟨_, rfl, kit_ty h3⟩
  | str s => cases h; exact ⟨_, rfl, kit_ty h4⟩
  | tup xs => cases h; exact ⟨_, rfl, kit_ty h5⟩
  | lst xs => cases h; exact ⟨_, rfl, kit_ty h6⟩
  | dk ks xs => cases h; exact ⟨_, rfl, kit_ty h7⟩
  | _ => cases h
def dIsi (T : Ty) (de : DTE) : DTE := fun ρ P => de ρ fun x ρ1 => ∃ b, isD T x = some b ∧ P (.bl b) ρ1
theorem de_isi (T : Ty) {p p2 : Pos} {x : Str} (hg : Gl X "isinstance") (hm : X.mg "isinstance" = none) (hg2 : Gl X x) (hm2 : X.mg x = none) (hv2 : bootBuiltins x = some (.type T.name)) (h : DC X e te de) (hn2 : x ≠ "__name__" := by decide) (hdb2 : (x == ("__debug__" : Str)) = false := by decide)
    (he : starEach [e, .Name x p2] X.env = (false, eval e X.env) :: starEach [.Name x p2] X.env := by rfl) (he2 : starEach [.Name x p2] X.env = (false, eval (.Name x p2) X.env) :: starEach [] X.env := by rfl) (hpl : (backTo pos (starEach [.Name x p2] X.env)).any (·.1) = false := by rfl) :
    DE X (.Call (.Name "isinstance" p) [e, .Name x p2] [] pos) (tCB (rIsi X.K) (tCons te (tCons (tC (.ty T.name)) tNil))) (dIsi T de) :=
  ⟨pe_callB call_isi hg hm rfl (pa_cons h.pe (pa_cons (pe_bltn hg2 hm2 hv2 (show RelV (.ty T.name) _ from rfl) hn2 hdb2) pa_nil he2) he) (by decide) (by decide) he hpl, fun N F H σ ρ P Q R q k => by
    refine h.le N F H σ ρ _ _ R q fun y v F1 H1 ρ1 q1 s1 R1 r1 => ?_
    obtain ⟨b, hb, hp⟩ := q1
    obtain ⟨n, hn, hk⟩ := kit_D (K := X.K) hb
    exact ⟨v, .ty T.name, .type n, .type T.name, b, rfl, .ty _, tyx_of hn (R1.opd r1), hk, k _ _ F1 H1 ρ1 hp s1 R1 rfl⟩⟩
def dIsi2 (T U : Ty) (de : DTE) : DTE := fun ρ P => de ρ fun x ρ1 => ∃ b c, isD T x = some b ∧ isD U x = some c ∧ P (.bl (b || c)) ρ1
theorem de_isi2 (T U : Ty) {p p2 p3 pt : Pos} {x y : Str} {kk} (hg : Gl X "isinstance") (hm : X.mg "isinstance" = none) (hg2 : Gl X x) (hm2 : X.mg x = none) (hv2 : bootBuiltins x = some (.type T.name)) (hg3 : Gl X y) (hm3 : X.mg y = none) (hv3 : bootBuiltins y = some (.type U.name)) (h : DC X e te de)
    (hn2 : x ≠ "__name__" := by decide) (hdb2 : (x == ("__debug__" : Str)) = false := by decide) (hn3 : y ≠ "__name__" := by decide) (hdb3 : (y == ("__debug__" : Str)) = false := by decide)
    (he : starEach [e, .Tuple [.Name x p2, .Name y p3] kk pt] X.env = (false, eval e X.env) :: starEach [.Tuple [.Name x p2, .Name y p3] kk pt] X.env := by rfl)
    (he2 : starEach [.Tuple [.Name x p2, .Name y p3] kk pt] X.env = (false, eval (.Tuple [.Name x p2, .Name y p3] kk pt) X.env) :: starEach [] X.env := by rfl)
    (he3 : starEach [.Name x p2, .Name y p3] X.env = (false, eval (.Name x p2) X.env) :: starEach [.Name y p3] X.env := by rfl) (he4 : starEach [.Name y p3] X.env = (false, eval (.Name y p3) X.env) :: starEach [] X.env := by rfl)
    (hpl : (backTo pos (starEach [.Tuple [.Name x p2, .Name y p3] kk pt] X.env)).any (·.1) = false := by rfl) :
    DE X (.Call (.Name "isinstance" p) [e, .Tuple [.Name x p2, .Name y p3] kk pt] [] pos) (tCB (rIsiT X.K) (tCons te (tCons (tTup (tCons (tC (.ty T.name)) (tCons (tC (.ty U.name)) tNil))) tNil))) (dIsi2 T U de) :=
  ⟨pe_callB call_isiT hg hm rfl (pa_cons h.pe (pa_cons (pe_tup (pa_cons (pe_bltn hg2 hm2 hv2 (show RelV (.ty T.name) _ from rfl) hn2 hdb2) (pa_cons (pe_bltn hg3 hm3 hv3 (show RelV (.ty U.name) _ from rfl) hn3 hdb3) pa_nil he4) he3)) pa_nil he2) he) (by decide) (by decide) he hpl, fun N F H σ ρ P Q R q k => by
    refine h.le N F H σ ρ _ _ R q fun y v F1 H1 ρ1 q1 s1 R1 r1 => ?_
    obtain ⟨b, c, hb, hc, hp⟩ := q1
    obtain ⟨n, hn, hk⟩ := kit_D (K := X.K) hb
    obtain ⟨m, hm, hk2⟩ := kit_D (K := X.K) hc
    rw [hn] at hm
    cases hm
    refine ⟨by show 2 ≤ sizeLine; decide, fun pp hpp => ?_⟩
    have st : Stp F1 H1 F1 (upd H1 pp (.tup [.ty T.name, .ty U.name])) := ⟨.of (same_upd hpp), .refl _, R1.sub.trans_same (same_upd hpp), fun _ _ e => .inl e, fun b ob u e => by
      by_cases hb : b = pp
      · subst hb; rw [upd_same] at e; cases e
      · rw [upd_ne hb] at e; exact e, fun a e => (same_upd hpp).free e, fun t => t.ext (same_upd hpp), fun a ps e => ⟨ps, same_upd hpp _ _ e⟩⟩
    have R2 := R1.step st
    refine ⟨v, pp, [.ty T.name, .ty U.name], .type n, [.type T.name, .type U.name], b || c, rfl, upd_same, .cons (.ty _) (.cons (.ty _) .nil), tyx_of hn (R2.opd (r1)), ?_, k _ _ F1 _ ρ1 hp s1 R2 rfl⟩
    exact kitAny_cons hk (fun e => by subst e; exact kitAny_cons hk2 (fun e => by subst e; exact kitAny_nil) fun e => by subst e; rfl) fun e => by subst e; rfl⟩
/-- .. an own class -/
structure ClsI (K : PySem.W.Frag) (C : Addr) : Prop where
  cl : Cls K C
  ha : PySem.W.findIn K (.ref C) "__class__" = some (some (.builtin "object.__class__"))
  hn : PySem.W.specialIn K (.builtin "object.__class__") "__get__" = some (some (.builtin "getset_descriptor.__get__"))
  htk : PySem.W.takesIn K (.builtin "object.__class__") = some true
  hm : PySem.W.mroIn K C (.type "object") = some true
def dIsC (C : Addr) (de : DTE) : DTE := fun ρ P => de ρ fun x ρ1 => match x with
  | .ins C' _ _ => C' = C ∧ P (.bl true) ρ1
  | _ => False
theorem de_isC {C : Addr} {p p2 : Pos} {x : Str} (hc : ClsI X.K C) (hg : Gl X "isinstance") (hm : X.mg "isinstance" = none) (hg2 : Gl X x) (hm2 : X.mg x = some (.ref C)) (h : DC X e te de) (hdb2 : (x == ("__debug__" : Str)) = false := by decide)
    (he : starEach [e, .Name x p2] X.env = (false, eval e X.env) :: starEach [.Name x p2] X.env := by rfl) (he2 : starEach [.Name x p2] X.env = (false, eval (.Name x p2) X.env) :: starEach [] X.env := by rfl) (hpl : (backTo pos (starEach [.Name x p2] X.env)).any (·.1) = false := by rfl) :
    DE X (.Call (.Name "isinstance" p) [e, .Name x p2] [] pos) (tCB (rIsi X.K) (tCons te (tCons (tC (.ref C)) tNil))) (dIsC C de) :=
  ⟨pe_callB call_isi hg hm rfl (pa_cons h.pe (pa_cons (pe_glob hg2 hm2 (show RelV (.ref C) _ from rfl) hdb2) pa_nil he2) he) (by decide) (by decide) he hpl, fun N F H σ ρ P Q R q k => by
    refine h.le N F H σ ρ _ _ R q fun y v F1 H1 ρ1 q1 s1 R1 r1 => ?_
    cases y with
    | ins C' fs xs =>
      obtain ⟨e1, hp⟩ := q1
      subst e1
      obtain ⟨a, dx, vs, e2, hh, _⟩ := R1.opd r1
      refine ⟨v, .ref C', .ref C', .ref C', true, rfl, .own _, ?_, ?_, k _ _ F1 H1 ρ1 hp s1 R1 rfl⟩
      · rw [e2]
        exact .base (.ins hh hc.cl hc.ha hc.hn hc.htk hc.hm)
      · show (if (Value.ref C' == Value.ref C') = true then some true else _) = some true
        rw [if_pos (by simp)]
    | _ => exact q1.elim⟩
end
end Dc

namespace Dc
open PySem PySem.Spec
open PyProof.Rows L2
variable [TabsT]

/-! ### attributes -/
def fldX : List Str → List D → Str → Option D
  | g :: fs, x :: xs, f => if f = g then some x else fldX fs xs f
  | _, _, _ => none
section
variable {K : KW} {F H : Hp}
theorem fld_rep : ∀ {fs : List Str} {xs : List D} {vs : List V} {f : Str} {z : D}, Reps K F xs vs → fldX fs xs f = some z → ∃ v, (fs.zip vs).lookup f = some v ∧ Rep K F z v
  | g :: fs, x :: xs, vs, f, z, ⟨v, r, e, h1, h2⟩, h => by
    subst e
    unfold fldX at h
    by_cases hg : f = g
    · rw [if_pos hg] at h
      cases h
      exact ⟨v, by simp [List.lookup, hg], h1⟩
    · rw [if_neg hg] at h
      obtain ⟨u, a, b⟩ := fld_rep h2 h
      refine ⟨u, ?_, b⟩
      have : (f == g) = false := by simpa using hg
      simp [List.lookup, this, a]
  | [], _, _, _, _, _, h => by simp [fldX] at h
  | _ :: _, [], _, _, _, _, h => by simp [fldX] at h
def fputK : List Str → Str → List Str
  | [], f => [f]
  | g :: fs, f => if g = f then g :: fs else g :: fputK fs f
def fputX {α : Type} : List Str → List α → Str → α → List α
  | g :: fs, x :: xs, f, y => if g = f then y :: xs else x :: fputX fs xs f y
  | _, _, _, y => [y]
theorem fput_zip : ∀ {fs : List Str} {vs : List V} {f : Str} {u : V}, fs.length = vs.length → putF f u (fs.zip vs) = (fputK fs f).zip (fputX fs vs f u) ∧ (fputK fs f).length = (fputX fs vs f u).length
  | [], [], f, u, _ => ⟨rfl, rfl⟩
  | g :: fs, v :: vs, f, u, h => by
    obtain ⟨h1, h2⟩ := fput_zip (fs := fs) (vs := vs) (f := f) (u := u) (by simpa using h)
    unfold fputK fputX
    rw [List.zip_cons_cons]
    show (if g = f then (g, u) :: fs.zip vs else (g, v) :: putF f u (fs.zip vs)) = _ ∧ _
    by_cases hg : g = f
    · rw [if_pos hg, if_pos hg, if_pos hg]
      exact ⟨rfl, h⟩
    · rw [if_neg hg, if_neg hg, if_neg hg, h1]
      exact ⟨rfl, by simp [h2]⟩
  | [], _ :: _, _, _, h => by simp at h
  | _ :: _, [], _, _, h => by simp at h
theorem Reps.fput {f : Str} {y : D} {u : V} (ry : Rep K F y u) : ∀ {fs : List Str} {xs : List D} {vs : List V}, Reps K F xs vs → Reps K F (fputX fs xs f y) (fputX fs vs f u)
  | [], [], vs, r => by cases (show vs = [] from r); exact .one ry
  | [], x :: xs, vs, ⟨v, r, e, h1, h2⟩ => by subst e; exact .one ry
  | g :: fs, [], vs, r => by cases (show vs = [] from r); exact .one ry
  | g :: fs, x :: xs, vs, ⟨v, r, e, h1, h2⟩ => by
    subst e
    unfold fputX
    by_cases hg : g = f
    · rw [if_pos hg, if_pos hg]; exact .cons ry h2
    · rw [if_neg hg, if_neg hg]; exact .cons h1 (Reps.fput ry h2)
end
section
variable {X : Cx} {pos : Pos} {e f o : Expr} {es : List Expr} {te tf to : TE} {de df dd : DTE} {t : TA} {u : DTA}
def dFld (C : Addr) (g : Str) (de : DTE) : DTE := fun ρ P => de ρ fun x ρ1 => match x with
  | .ins C' fs xs => C' = C ∧ ∃ z, fldX fs xs g = some z ∧ P z ρ1
  | _ => False
/-- e.f, an attribute of the instance -/
theorem de_fld {C : Addr} {g : Str} (c : Cls X.K C) (n : NoAttr X.K C g) (h : DC X e te de) (hb : attributeBase e g X.env (eval e X.env) = eval e X.env := by rfl) : DE X (.Attribute e g pos) (tFld X.K te g) (dFld C g de) :=
  ⟨pe_fld h.pe hb, fun N F H σ ρ P Q R q k => by
    refine h.le N F H σ ρ _ _ R q fun x v F1 H1 ρ1 q1 s1 R1 r1 => ?_
    cases x with
    | ins C' fs xs =>
      obtain ⟨e1, z, hz, hp⟩ := q1
      subst e1
      obtain ⟨a, dx, vs, e2, hh, _, rr⟩ := R1.opd r1
      obtain ⟨w, hw, rw'⟩ := fld_rep rr hz
      exact ⟨a, C', dx, _, w, e2, hh, c, n, hw, k _ _ F1 H1 ρ1 hp s1 R1 rw'⟩
    | _ => exact q1.elim⟩
/-- name.f = value, the instance the def's own -/
def sFldD (i : Nat) (C : Addr) (g : Str) (de : DTE) : DTS := fun D ρ => de ρ fun y ρ1 => match ρ1[i]? with
  | some (.my a (.ins C' fs xs)) => C' = C ∧ fs.length < 1000 ∧ D.nx (ρ1.set i (.my a (.ins C' (fputK fs g) (fputX fs xs g y))))
  | _ => False
theorem ds_fld (i : Nat) {C : Addr} {g x : Str} {p pt : Pos} (c : Cls X.K C) (n : NoAttr X.K C g) (h : DE X e te de) (hN : X.N[i]? = some x := by rfl) (hv : Vis X.env.scope x := by first | exact Or.inl rfl | exact Or.inr (Or.inl rfl) | exact Or.inr (Or.inr rfl)) (hd : (x == ("__debug__" : Str)) = false := by decide)
    (hcd : (x == ("__classdict__" : Str)) = false := by decide) (hs : swapsWith e (some (.Attribute (.Name x p) g pt)) pos.line X.env = pure false := by rfl) :
    DS X (.Assign [.Attribute (.Name x p) g pt] e pos) (sFld X.K (tVar i) te g) (sFldD i C g de) :=
  ⟨ps_fld (pe_var hN hv hd hcd) h.pe hs, fun N F H σ ρ D E R hl q k => by
    refine h.le N F H σ ρ _ _ R q fun y w F1 H1 ρ1 q1 s1 R1 r1 => ?_
    split at q1
    · rename_i a C' fs xs hx
      obtain ⟨e1, hlen, hp⟩ := q1
      subst e1
      obtain ⟨o, ea, hH, ⟨dx, vs, eo, hz, rr⟩, _, fin⟩ := R1.myAt hx
      subst eo
      refine ⟨_, ea, a, C', dx, _, rfl, hH, c, n, by rw [List.length_zip, ← hz]; simpa using hlen, ?_⟩
      rw [(fput_zip hz).1]
      exact k.nx F1 _ σ _ hp s1 (fin _ _ ⟨dx, _, rfl, (fput_zip hz).2, rr.fput r1⟩) rfl
    · exact q1.elim⟩

/-! ### properties -/
structure KnP (P : Program) (w : World) (K : PySem.W.Frag) (mg : Str → Option Value) (base : Heap) (k : Nat) (C : Addr) (f : Str) (S : SD) : Prop where
  ex : ∃ (p g : Addr) (fd : FuncData) (ps : List Str) (ds : List Value), PropOf K C f p g ∧ FnOk P w K mg base CX0 k g fd ps (spD ⟨K, w⟩ S) ∧ Binds K fd ps ds ∧ Vals [] ds
  cl : Cls K C
def dProp (C : Addr) (S : SD) (de : DTE) : DTE := fun ρ P => de ρ fun x ρ1 => (∃ fs xs, x = .ins C fs xs) ∧ S [x] fun z => P z ρ1
theorem de_prop {C : Addr} {g : Str} {j k : Nat} {S : SD} (c : KnP X.prog X.w X.K X.mg X.base k C g S) (hr : Room j X.A) (hk : k + 1 ≤ j) (h : DE X e te de) (hb : attributeBase e g X.env (eval e X.env) = eval e X.env := by rfl) :
    DE X (.Attribute e g pos) (tProp C (spD X.kw S) [] E0 te) (dProp C S de) := by
  obtain ⟨⟨p, ga, fd, ps, ds, hp, hf, hb', hv⟩, cl⟩ := c
  exact ⟨pe_prop h.pe cl hp hf (hr.mono hk) hb' hv pass0 hb, fun N F H σ ρ P Q R q k => by
    refine h.le N F H σ ρ _ _ R q fun x v F1 H1 ρ1 q1 s1 R1 r1 => ?_
    obtain ⟨⟨fs, xs, ex⟩, hS⟩ := q1
    subst ex
    have r1' := r1
    obtain ⟨a, dx, vs, e2, hh, _, rr⟩ := r1
    subst e2
    refine ⟨a, dx, _, rfl, R1.sub.inst hh, F1, [.ins C fs xs], _, R1.tb, R1.sub, .one r1', hS, fun z w F2 H2 p2 st r2 => k z w F2 H2 ρ1 p2 (s1.trans st.ff) (R1.step st) r2⟩⟩

/-! ### a def that changes its first argument -/
abbrev SM := D → List D → (D → D → Prop) → Prop
def spM (K : KW) (S : SM) : Sp := fun vs H Q _ => ∃ F a o x0 rest ds P, vs = .ref a :: rest ∧ LamX.Tabs TabsT.T H ∧ Sub F H ∧ F a = none ∧ H a = some o ∧ Shape K F a x0 o ∧ Reps K F ds rest ∧ S x0 ds P ∧
  ∀ z v x' o' F' H', P z x' → Stp F (upd H a o') F' H' → F' a = none → Shape K F' a x' o' → Rep K F' z v → Q v H'
def rho1 (n : Nat) (a : Addr) (x0 : D) (ds : List D) : Rho := .my a x0 :: (ds.map Sl.sh ++ List.replicate (n - (ds.length + 1)) Sl.no)
theorem rel_start1 {K : KW} {F H : Hp} {Ns : List Str} {a : Addr} {o : HO} {x0 : D} {ds : List D} {vs : List V} (tb : LamX.Tabs TabsT.T H) (s : Sub F H) (hF : F a = none) (hH : H a = some o) (sh : Shape K F a x0 o) (r : Reps K F ds vs) :
    RelS K ⟨F, fun b => if b = a then none else H b, []⟩ F H (start Ns (.ref a :: vs)) (rho1 Ns.length a x0 ds) := by
  refine ⟨s, .refl _, fun _ _ e => .inl e, fun b u e _ => .inl ?_, fun b e => ?_, tb, fun b ps e => ⟨ps, ?_⟩, fun p hp => absurd hp (by simp), fun b ob u e => .inl ?_, fun b => if b = a then some 0 else none, fun b i e => ?_, fun i x e => ?_⟩
  · have e : (if b = a then none else H b) = some u := e
    by_cases hb : b = a
    · rw [if_pos hb] at e; cases e
    · rw [if_neg hb] at e; exact e
  · show (if b = a then none else H b) = none
    by_cases hb : b = a
    · rw [if_pos hb]
    · rw [if_neg hb]; exact e
  · have e : (if b = a then none else H b) = some (.tbl ps) := e
    by_cases hb : b = a
    · rw [if_pos hb] at e; cases e
    · rw [if_neg hb] at e; exact e
  · show (if b = a then none else H b) = _
    rw [if_neg (fun z => by rw [z, hH] at e; cases e; exact sh.nofrz)]; exact e
  · by_cases hb : b = a
    · subst hb
      exact ⟨hF, by show (if b = b then none else H b) = none; simp, by rw [hH]; simp⟩
    · simp [hb] at e
  · cases i with
    | zero =>
      unfold rho1 at e
      simp at e
      subst e
      exact ⟨some (.ref a), by unfold L2.start; simp, rfl, a, o, rfl, by simp, hH, sh⟩
    | succ i =>
      unfold rho1 at e
      rw [List.getElem?_cons_succ] at e
      have hl := r.length
      unfold L2.start
      by_cases hi : i < ds.length
      · rw [List.getElem?_append_left (by simpa using hi), List.getElem?_map] at e
        obtain ⟨d, hd⟩ : ∃ d, ds[i]? = some d := ⟨ds[i], by simp [hi]⟩
        rw [hd] at e
        cases e
        obtain ⟨v, hv, rv⟩ := r.get hd
        refine ⟨some v, ?_, v, rfl, rv⟩
        rw [List.map_cons, List.cons_append, List.getElem?_cons_succ, List.getElem?_append_left (by simpa [← hl] using hi), List.getElem?_map, hv]
        rfl
      · rw [List.getElem?_append_right (by simpa using hi)] at e
        obtain ⟨h1, h2⟩ := List.getElem?_eq_some_iff.mp e
        simp at h1 h2
        subst h2
        refine ⟨none, ?_, trivial⟩
        rw [List.map_cons, List.cons_append, List.getElem?_cons_succ, List.getElem?_append_right (by simp [← hl]; omega)]
        have : i - (vs.map some).length < (List.replicate (Ns.length - (V.ref a :: vs).length) (none : Option V)).length := by simp [← hl]; omega
        rw [List.getElem?_eq_getElem this]
        simp
section
variable {P : Program} {w : World} {K : PySem.W.Frag} {mg : Str → Option Value} {base : Heap}
theorem fn_m {x qual : Str} {params : Arguments} {body : List Stmt} {scope : Scope} {dvs : List V} {kws : List (Str × V)} {f : Addr} {fd : FuncData} {Ns ps : List Str} {k : Nat} {S : SM} {d : DTS} (Fd : FunD K x qual params body scope dvs kws f fd) (Sc : FnScope Ns ps scope)
    (len : ∀ x0 ds P, S x0 ds P → ds.length + 1 = ps.length) (hn : ps.length ≤ Ns.length)
    (hbody : ∀ (cdv : Value) (A : Around) (outer : List Env) (s : Shared) (H : Hp) (E : XK), Room k (A.deeper (envOfC qual scope s.heap.objs.size f cdv)) → ∃ t, DSs (cxOf CX0 P w K mg base Ns qual scope f cdv A outer s H E).nox body t d)
    (rd : ∀ a x0 ds P, S x0 ds P → d { nx := fun ρ => ∃ x', ρ[0]? = some (.my a x') ∧ P .non x', rt := fun z ρ => ∃ x', ρ[0]? = some (.my a x') ∧ P z x' } (rho1 Ns.length a x0 ds)) : FnOk P w K mg base CX0 (k + 1) f fd ps (spM ⟨K, w⟩ S) := by
  refine Fd.ok Sc (fun vs H Q E h => ?_) (fun cdv A outer s H vs Q E hr h => ?_)
  · obtain ⟨F, a, o, x0, rest, ds, P, ev, _, _, _, _, _, r, hS, _⟩ := h
    rw [ev, List.length_cons, ← r.length]
    exact len x0 ds P hS
  · obtain ⟨F1, a, o, x0, rest, ds, P1, ev, tb, sb, hF, hH, sh, r, hS, k⟩ := h
    obtain ⟨t, ht⟩ := hbody cdv A outer s H E hr
    subst ev
    refine ⟨t, ht.ps.nox, ?_⟩
    have hl : (V.ref a :: rest).length ≤ Ns.length := by rw [List.length_cons, ← r.length, len x0 ds P1 hS]; exact hn
    have fin : ∀ (z : D) (v : V) (x' : D) (F' H' : Hp) (σ' : L2.St) (ρ' : Rho), P1 z x' → ρ'[0]? = some (.my a x') → RelS ⟨K, w⟩ ⟨F1, fun b => if b = a then none else H b, []⟩ F' H' σ' ρ' → Rep ⟨K, w⟩ F' z v → Q v H' := by
      intro z v x' F' H' σ' ρ' p hx R rz
      obtain ⟨o2, ea2, hH2, sh2, hF2, _⟩ := R.myAt hx
      refine k z v x' o2 F' H' p ⟨fun b u e nt => ?_, R.frz0, R.sub, fun b u e => ?_, fun b ob u e => ?_, fun b e => ?_, fun _ => R.tb, fun b ps e => ?_⟩ hF2 sh2 rz
      · by_cases hb : b = a
        · subst hb; rw [upd_same] at e; cases e; exact hH2
        · rw [upd_ne hb] at e
          rcases R.old b u (by show (if b = a then none else H b) = some u; rw [if_neg hb]; exact e) nt with q | ⟨ob, q⟩
          · exact q
          · exact absurd q (by simp)
      · rcases R.new b u e with q | q
        · exact .inl q
        · have q : (if b = a then none else H b) = none := q
          by_cases hb : b = a
          · subst hb; rw [hF2] at e; cases e
          · rw [if_neg hb] at q
            exact .inr (by rw [upd_ne hb]; exact q)
      · rcases R.fz b ob u e with q | q
        · have q : (if b = a then none else H b) = some (.frz ob u) := q
          by_cases hb : b = a
          · rw [if_pos hb] at q; cases q
          · rw [if_neg hb] at q; rw [upd_ne hb]; exact q
        · exact absurd q (by simp)
      · have q : (if b = a then none else H b) = none := R.nn b e
        have hb : b ≠ a := fun z => by rw [z, hH2] at e; cases e
        rw [if_neg hb] at q
        rw [upd_ne hb]; exact q
      · have hb : b ≠ a := fun z => by rw [z, upd_same] at e; cases e; exact sh2.nt _ rfl
        rw [upd_ne hb] at e
        exact R.tt b ps (by show (if b = a then none else H b) = _; rw [if_neg hb]; exact e)
    exact ht.ls ⟨F1, fun b => if b = a then none else H b, []⟩ F1 H _ _ _ _ (rel_start1 tb sb hF hH sh r) (start_len hl) (rd a x0 ds P1 hS)
      ⟨fun F' H' σ' ρ' ⟨x', hx, p⟩ s R _ => fin _ _ x' F' H' σ' ρ' p hx R rfl, fun z v F' H' σ' ρ' ⟨x', hx, p⟩ s R r => fin z v x' F' H' σ' ρ' p hx R r, fun _ _ _ _ p => p.elim, fun _ _ _ _ p => p.elim⟩
end
/-- a class known by its name: its level, what making one promises -/
structure KnC (P : Program) (w : World) (K : PySem.W.Frag) (mg : Str → Option Value) (base : Heap) (k : Nat) (x : Str) (C : Addr) (S : SM) (dd : List D) : Prop where
  ex : ∃ (f : Addr) (fd : FuncData) (ps : List Str) (ds : List Value), Mk K C f ∧ FnOk P w K mg base CX0 k f fd ps (spM ⟨K, w⟩ S) ∧ mg x = some (.ref C) ∧ Binds K fd ps ds ∧ Vals (dd.map flatV) ds
  fl : dd.all isFlat = true
def dMake (C : Addr) (S : SM) (dd : List D) (u : DTA) : DTE := fun ρ P => u ρ fun xs ρ1 => S (.ins C [] []) (xs ++ dd) fun z x' => z = .non ∧ P x' ρ1
theorem de_make {C : Addr} {x : Str} {p : Pos} {k j : Nat} {S : SM} {dd : List D} (c : KnC X.prog X.w X.K X.mg X.base k x C S dd) (hr : Room j X.A) (hk : k + 1 ≤ j) (hg : Gl X x) (h : DA X (e :: es) t u)
    (hdb : (x == ("__debug__" : Str)) = false := by decide) (he : starEach (e :: es) X.env = (false, eval e X.env) :: starEach es X.env := by rfl) (hpl : (backTo pos (starEach es X.env)).any (·.1) = false := by rfl) :
    DE X (.Call (.Name x p) (e :: es) [] pos) (tMake C (spM X.kw S) (dd.map flatV) E0 t) (dMake C S dd u) := by
  obtain ⟨⟨f, fd, ps, ds, M, hf, hm, hb, hv⟩, fl⟩ := c
  exact ⟨pe_make M hf (hr.mono hk) hg hm hb hv pass0 h.pa hdb he hpl, fun N F H σ ρ P Q R q kk => by
    refine h.la N F H σ ρ _ _ R q fun xs vs F1 H1 ρ1 q1 s1 R1 r1 => ?_
    intro a dx ha hdx hne
    have hne' : a ≠ dx := fun z => hne z.symm
    have hF := R1.sub.free ha
    have s0 : Same H1 (upd (upd H1 dx (.own a)) a (.ins C dx [])) := (same_upd hdx).trans (same_upd (by rw [upd_ne hne']; exact ha))
    refine ⟨F1, a, .ins C dx [], .ins C [] [], vs ++ dd.map flatV, xs ++ dd, _, rfl, R1.tb.ext s0, R1.sub.trans_same s0, hF, upd_same, ⟨dx, [], rfl, rfl, rfl⟩, r1.append (reps_flat fl), q1, fun z v x' o' F2 H2 p st hF2 sh rz => ?_⟩
    obtain ⟨e1, p⟩ := p
    subst e1
    refine ⟨rz, ?_⟩
    have hh : Same H1 (upd (upd (upd H1 dx (.own a)) a (.ins C dx [])) a o') := fun b u e => by
      have hb : b ≠ a := fun z => by rw [z, ha] at e; cases e
      have hb2 : b ≠ dx := fun z => by rw [z, hdx] at e; cases e
      rw [upd_ne hb, upd_ne hb, upd_ne hb2]; exact e
    have hH2 : H2 a = some o' := st.hh a o' upd_same sh.nt
    have st2 : Stp F1 H1 (upd F2 a o') H2 := ⟨(LamX.ExtN.of hh).trans st.hh, st.ff.trans (same_upd hF2), fun b u e => by
      by_cases hb : b = a
      · subst hb; rw [upd_same] at e; cases e; exact .inl ⟨hH2, sh.nt⟩
      · rw [upd_ne hb] at e; exact st.sub b u e, fun b u e => by
      by_cases hb : b = a
      · subst hb; exact .inr ha
      · rw [upd_ne hb] at e
        rcases st.new b u e with y | y
        · exact .inl y
        · rw [upd_ne hb, upd_ne hb] at y
          by_cases hb2 : b = dx
          · subst hb2; exact .inr hdx
          · rw [upd_ne hb2] at y; exact .inr y, fun b ob u e => by
      have q := st.fz b ob u e
      by_cases hb : b = a
      · subst hb; rw [upd_same] at q; cases q; exact absurd sh Shape.nofrz
      · rw [upd_ne hb, upd_ne hb] at q
        by_cases hb2 : b = dx
        · subst hb2; rw [upd_same] at q; cases q
        · rw [upd_ne hb2] at q; exact q, fun b e => hh.free (st.nn b e), fun t => st.tb (t.ext hh), fun b ps e => st.tt b ps (hh _ _ e)⟩
    exact kk _ _ (upd F2 a o') H2 ρ1 p (s1.trans st2.ff) (R1.step st2) (sh.rep hF2)⟩
end
end Dc

namespace Dc
open PySem PySem.Spec
open PyProof.Rows L2
variable [TabsT]

/-! ### enumerate, zip -/
def enumD (xs : List D) : List D := xs.zipIdx.map fun p => D.tup [.int (p.2 : Nat), p.1]
def zipD (xs ys : List D) : List D := (xs.zip ys).map fun p => D.tup [p.1, p.2]
section
variable {K : KW} {N : En} {F : Hp}
theorem rep_pair {F H : Hp} {x y : D} {v u : V} {T : Addr} (s : Sub F H) (hT : H T = none) (rx : Rep K F x v) (ry : Rep K F y u) : Rep K (upd F T (.tup [v, u])) (.tup [x, y]) (.ref T) :=
  rep_tup s (.cons rx (.one ry)) (by show 2 ≤ sizeLine; decide) hT
theorem itOk_enum {a : Addr} {xs : List D} {vs : List V} (h : SqL K.K F a vs) (r : Reps K F xs vs) : ItOk K N F (Ite K.K a) (enumD xs) := fun F' H' s sb _ _ => by
  have hq := sb.sqL (Same.seq s h)
  refine ⟨fun i x e => ?_, vs, hq, by unfold enumD; rw [List.length_map, List.length_zipIdx, r.length]; exact Nat.le_refl _⟩
  unfold enumD at e
  rw [List.getElem?_map, List.getElem?_zipIdx] at e
  cases ex : xs[i]? with
  | none => rw [ex] at e; cases e
  | some y =>
    rw [ex] at e
    simp at e
    subst e
    obtain ⟨v, ev, rv⟩ := r.get ex
    refine ⟨⟨vs, v, hq, ev⟩, fun v' H2 z => ?_⟩
    obtain ⟨T, u, e1, hT, e2, hu⟩ := z
    have := hu vs hq
    rw [ev] at this
    cases this
    subst e1 e2
    exact ⟨_, .laid sb hT, rep_pair sb hT rfl (rv.mono s)⟩
theorem itOk_zip {a b : Addr} {xs ys : List D} {vs us : List V} (h : SqL K.K F a vs) (r : Reps K F xs vs) (h' : SqL K.K F b us) (r' : Reps K F ys us) : ItOk K N F (Itz K.K a b) (zipD xs ys) := fun F' H' s sb _ _ => by
  have hq := sb.sqL (Same.seq s h)
  have hq' := sb.sqL (Same.seq s h')
  refine ⟨fun i x e => ?_, vs, us, hq, hq', ?_⟩
  · unfold zipD at e
    rw [List.getElem?_map] at e
    obtain ⟨⟨x1, y1⟩, ez, e⟩ := Option.map_eq_some_iff.mp e
    subst e
    obtain ⟨ex, ey⟩ := List.getElem?_zip_eq_some.mp ez
    obtain ⟨v, ev, rv⟩ := r.get ex
    obtain ⟨u, eu, ru⟩ := r'.get ey
    refine ⟨⟨vs, us, v, u, hq, hq', ev, eu⟩, fun v' H2 z => ?_⟩
    obtain ⟨T, p, q, e1, hT, e2, hu, hw⟩ := z
    have z1 := hu vs hq
    rw [ev] at z1
    cases z1
    have z2 := hw us hq'
    rw [eu] at z2
    cases z2
    subst e1 e2
    exact ⟨_, .laid sb hT, rep_pair sb hT (rv.mono s) (ru.mono s)⟩
  · unfold zipD
    rw [List.length_map, List.length_zip, r.length, r'.length]
    omega
end
section
variable {X : Cx} {pos p : Pos} {tg e e2 : Expr} {ta : TA} {ua : DTA}
def dEnum (ua : DTA) : DTI := fun ρ P => ua ρ fun xs ρ1 => match xs with
  | [.lst ys] => P (enumD ys) ρ1
  | _ => False
theorem di_enum {elts : List Expr} {kk : Nat} {tpos : Pos} (hg : Gl X "enumerate") (hm : X.mg "enumerate" = none) (h : DA X [e] ta ua) (hs : starEach [e] X.env = [(false, eval e X.env)] := by rfl) : DI X (.Tuple elts kk tpos) (.Call (.Name "enumerate" p) [e] [] pos) (iEnum X.K ta) (dEnum ua) :=
  ⟨pi_enum hg hm h.pa hs, fun N F H σ ρ P R RS q k => by
    refine h.la N F H σ ρ _ _ RS q fun xs vs F1 H1 ρ1 q1 s1 R1 r1 => ?_
    unfold dEnum at q
    split at q1
    · obtain ⟨v, w, e1, r2, r3⟩ := r1
      cases (show w = [] from r3)
      obtain ⟨a, us, e2, hq, hl, rr⟩ := r2
      exact ⟨a, us, by rw [e1, e2], R1.sub.sqL hq, k _ F1 H1 ρ1 _ q1 s1 R1 (itOk_enum hq rr)⟩
    · exact q1.elim⟩
def dZip (ua : DTA) : DTI := fun ρ P => ua ρ fun xs ρ1 => match xs with
  | [.lst ys, .lst zs] => P (zipD ys zs) ρ1
  | _ => False
theorem di_zip {elts : List Expr} {kk : Nat} {tpos : Pos} (hg : Gl X "zip") (hm : X.mg "zip" = none) (h : DA X [e, e2] ta ua) (hs : starEach [e, e2] X.env = (false, eval e X.env) :: starEach [e2] X.env := by rfl) (hpl : (backTo pos (starEach [e2] X.env)).any (·.1) = false := by rfl) :
    DI X (.Tuple elts kk tpos) (.Call (.Name "zip" p) [e, e2] [] pos) (iZip X.K ta) (dZip ua) :=
  ⟨pi_zip hg hm h.pa hs hpl, fun N F H σ ρ P R RS q k => by
    refine h.la N F H σ ρ _ _ RS q fun xs vs F1 H1 ρ1 q1 s1 R1 r1 => ?_
    split at q1
    · obtain ⟨v, w, e1, r2, v', w', e3, r3, r4⟩ := r1
      cases (show w' = [] from r4)
      obtain ⟨a, us, e5, hq, hl, rr⟩ := r2
      obtain ⟨a', us', e6, hq', hl', rr'⟩ := r3
      exact ⟨a, a', us, us', by rw [e1, e3, e5, e6], R1.sub.sqL hq, R1.sub.sqL hq', k _ F1 H1 ρ1 _ q1 s1 R1 (itOk_zip hq rr hq' rr')⟩
    · exact q1.elim⟩

/-! ### dicts, locked while they are walked -/
/-- the value is a dict: it stands locked, or is locked now -/
def tLk (X : Cx) (t : TE) : TE := fun σ H Q => t σ H fun x H1 => ∃ d, x = .ref d ∧ ((∃ o kvs, H1 d = some (.frz o (.dK kvs)) ∧ Q x H1) ∨ (∃ kvs, H1 d = some (.dK kvs) ∧ ∀ od, (∀ o' u', X.H_0 d ≠ some (.frz o' u')) → Q x (upd H1 d (.frz od (.dK kvs)))))
theorem pe_lk {t : TE} (h : PE X e t) : PE X e (tLk X t) := ⟨fun pins s σ H Q I q => thn (h.run pins s σ H _ I q) fun v s1 ⟨x, H1, I1, r, d, ex, q1⟩ => by
  subst ex
  rcases q1 with ⟨o, kvs, hd, q1⟩ | ⟨kvs, hd, q1⟩
  · exact ⟨_, H1, I1, r, q1⟩
  · obtain ⟨od, I2⟩ := I1.lock hd trivial
    exact ⟨_, _, I2, r, q1 od (I1.nofrz hd trivial)⟩⟩
/-- behind: as it is, or unlocked -/
def unlP (X : Cx) (Q : Hp → Prop) (H : Hp) : Prop := Q H ∨ ∃ d od u, H d = some (.frz od u) ∧ (∀ o' u', X.H_0 d ≠ some (.frz o' u')) ∧ Q (upd H d u)
def unlE (X : Cx) (E : Ends) : Ends := ⟨fun σ => unlP X (E.nx σ), fun v => unlP X (E.rt v), fun σ => unlP X (E.bk σ), fun σ => unlP X (E.ct σ)⟩
def tUnlS (X : Cx) (t : TS) : TS := fun E σ H => t (unlE X E) σ H
def tUnlE (X : Cx) (t : TE) : TE := fun σ H Q => t σ H fun v => unlP X (Q v)
theorem Inv.unlP {pins : List (Addr × Obj)} {σ : L2.St} {H : Hp} {s : Shared} {Q : Hp → Prop} (I : Inv X pins σ H s) (q : unlP X Q H) : ∃ H', Inv X pins σ H' s ∧ Q H' := by
  rcases q with q | ⟨d, od, u, hd, hn, q⟩
  · exact ⟨H, I, q⟩
  · exact ⟨_, I.unlock hd hn, q⟩
theorem ps_unl {st : Stmt} {t : TS} (h : PS X st t) : PS X st (tUnlS X t) := ⟨fun pins s σ H D I hw => thn (h.run pins s σ _ _ I hw) fun f s1 q => by
  cases f with
  | next => obtain ⟨σ', H', I2, q⟩ := q; obtain ⟨H2, I3, q⟩ := Inv.unlP I2 q; exact ⟨σ', H2, I3, q⟩
  | brk => obtain ⟨σ', H', I2, q⟩ := q; obtain ⟨H2, I3, q⟩ := Inv.unlP I2 q; exact ⟨σ', H2, I3, q⟩
  | cont => obtain ⟨σ', H', I2, q⟩ := q; obtain ⟨H2, I3, q⟩ := Inv.unlP I2 q; exact ⟨σ', H2, I3, q⟩
  | ret v => obtain ⟨x, σ', H', I2, r, q⟩ := q; obtain ⟨H2, I3, q⟩ := Inv.unlP I2 q; exact ⟨x, σ', H2, I3, r, q⟩⟩
theorem pe_unl {t : TE} (h : PE X e t) : PE X e (tUnlE X t) := ⟨fun pins s σ H Q I hw => thn (h.run pins s σ _ _ I hw) fun v s1 ⟨x, H1, I2, r, q⟩ => by
  obtain ⟨H2, I3, q⟩ := Inv.unlP I2 q
  exact ⟨x, H2, I3, r, q⟩⟩
/-- the entry, a dict locked more or not -/
def Lkd (X : Cx) (N N' : En) (F1 : Hp) : Prop := N' = N ∨ ∃ d od kvs, N' = { N with L := (d, od, .dK kvs) :: N.L } ∧ (∀ o' u', X.H_0 d ≠ some (.frz o' u')) ∧ (∀ p ∈ N.L, p.1 ≠ d) ∧ (∀ o, N.H0 d = some o → o = .dK kvs) ∧ F1 d = some (.dK kvs)
theorem Lkd.un {N N' : En} {F1 F H : Hp} {σ : L2.St} {ρ : Rho} {Q : Hp → Prop} (l : Lkd X N N' F1) (sF : Same F1 F) (R : RelS X.kw N' F H σ ρ) (k : ∀ H', RelS X.kw N F H' σ ρ → Q H') : unlP X Q H := by
  rcases l with e | ⟨d, od, kvs, e, hn, hl, h0, hF1⟩
  · subst e
    exact .inl (k H R)
  · subst e
    have hd := (R.lk (d, od, .dK kvs) (List.mem_cons_self ..)).2
    refine .inr ⟨d, od, .dK kvs, hd, hn, k _ ?_⟩
    obtain ⟨own, w1, w2⟩ := R.sl
    have hown : ∀ a i o u, own a = some i → H a = some u → Shape X.kw F a o u → a ≠ d := fun a i o u _ e sh z => by
      rw [z, hd] at e; cases e; exact sh.nofrz
    refine ⟨fun a o e => ?_, R.frz0, R.new, fun a o e nt => ?_, fun a e => ?_, tabs_upd R.tb hd (fun _ z => by cases z) (fun _ _ z => by unfold LamX.CodeO at z; cases z), tt_upd R.tt hd (fun _ z => by cases z), fun p hp => ⟨(R.lk p (List.mem_cons_of_mem _ hp)).1, by rw [upd_ne (hl p hp)]; exact (R.lk p (List.mem_cons_of_mem _ hp)).2⟩, fun a ob u e => ?_, own, fun a i e => ⟨(w1 a i e).1, (w1 a i e).2.1, ?_⟩, fun i x e => ?_⟩
    · by_cases ha : a = d
      · subst ha
        rw [sF _ _ hF1] at e
        cases e
        exact .inl ⟨upd_same, fun _ z => by cases z⟩
      · rw [upd_ne ha]; exact R.sub a o e
    · by_cases ha : a = d
      · subst ha
        have := h0 o e
        subst this
        exact .inl upd_same
      · rw [upd_ne ha]
        rcases R.old a o e nt with q | ⟨ob, q⟩
        · exact .inl q
        · rcases List.mem_cons.mp q with q | q
          · cases q; exact absurd rfl ha
          · exact .inr ⟨ob, q⟩
    · have ha : a ≠ d := fun z => by rw [z, upd_same] at e; cases e
      rw [upd_ne ha] at e
      exact R.nn a e
    · by_cases ha : a = d
      · subst ha; rw [upd_same] at e; cases e
      · rw [upd_ne ha] at e
        rcases R.fz a ob u e with q | q
        · exact .inl q
        · rcases List.mem_cons.mp q with q | q
          · cases q; exact absurd rfl ha
          · exact .inr q
    · by_cases ha : a = d
      · rw [ha, upd_same]; simp
      · rw [upd_ne ha]; exact (w1 a i e).2.2
    · obtain ⟨u, e1, r⟩ := w2 i x e
      refine ⟨u, e1, ?_⟩
      cases x with
      | no => trivial
      | sh d => exact r
      | ow dd => obtain ⟨a, o, q1, q2, q3, q4⟩ := r; exact ⟨a, o, q1, q2, by rw [upd_ne (hown a i dd o q2 q3 q4)]; exact q3, q4⟩
      | my _ dd => obtain ⟨q0, a, o, q1, q2, q3, q4⟩ := r; exact ⟨q0, a, o, q1, q2, by rw [upd_ne (hown a i dd o q2 q3 q4)]; exact q3, q4⟩
/-- what is walked may be locked for it -/
structure DJ (X : Cx) (tg iter : Expr) (wi : TI) (di : DTI) : Prop where
  pi : PI X tg iter wi
  lj : ∀ (N : En) (F H : Hp) (σ : L2.St) (ρ : Rho) (P : List D → Rho → Prop) (R : It → Hp → Prop), RelS X.kw N F H σ ρ → di ρ P →
    (∀ xs F' H' ρ' J N', P xs ρ' → Same F F' → RelS X.kw N' F' H' σ ρ' → Lkd X N N' F' → ItOk X.kw N' F' J xs → R J H') → wi σ H R
theorem DI.dj {wi : TI} {di : DTI} {tg it : Expr} (h : DI X tg it wi di) : DJ X tg it wi di := ⟨h.pi, fun N F H σ ρ P R RS q k => h.li N F H σ ρ P R RS q fun xs F' H' ρ' J p s R' ok => k xs F' H' ρ' J N p s R' (.inl rfl) ok⟩
theorem RelS.lock {N : En} {F H : Hp} {σ : L2.St} {ρ : Rho} {K : KW} (R : RelS K N F H σ ρ) {d : Addr} {kvs : List (Key × V)} (hF : F d = some (.dK kvs)) (hH : H d = some (.dK kvs)) (od : Obj) :
    RelS K { N with L := (d, od, .dK kvs) :: N.L } F (upd H d (.frz od (.dK kvs))) σ ρ ∧ (∀ p ∈ N.L, p.1 ≠ d) ∧ ∀ o, N.H0 d = some o → o = .dK kvs := by
  have hl : ∀ p ∈ N.L, p.1 ≠ d := fun p hp z => by
    have := (R.lk p hp).2
    rw [z, hH] at this; cases this
  have h0 : ∀ o, N.H0 d = some o → o = .dK kvs := fun o e => by
    by_cases nt : NT o
    · rcases R.old d o e nt with q | ⟨ob, q⟩
      · rw [hH] at q; exact (Option.some.inj q).symm
      · exact absurd rfl (hl _ q)
    · cases o with
      | tbl ps =>
        obtain ⟨ps', e'⟩ := R.tt d ps e
        rw [hH] at e'; cases e'
      | _ => exact absurd (fun _ z => by cases z) nt
  refine ⟨?_, hl, h0⟩
  obtain ⟨own, w1, w2⟩ := R.sl
  have hown : ∀ a i, own a = some i → a ≠ d := fun a i e z => by
    have := (w1 a i e).1
    rw [z, hF] at this; cases this
  refine ⟨fun a o e => ?_, R.frz0, R.new, fun a o e nt => ?_, fun a e => ?_, tabs_upd R.tb hH (fun _ z => by cases z) (fun _ _ z => by unfold LamX.CodeO at z; cases z), tt_upd R.tt hH (fun _ z => by cases z), fun p hp => ?_, fun a ob u e => ?_, own, fun a i e => ⟨(w1 a i e).1, (w1 a i e).2.1, by rw [upd_ne (hown a i e)]; exact (w1 a i e).2.2⟩, fun i x e => ?_⟩
  · by_cases ha : a = d
    · subst ha
      rw [hF] at e
      cases e
      exact .inr ⟨rfl, od, upd_same⟩
    · rw [upd_ne ha]; exact R.sub a o e
  · by_cases ha : a = d
    · subst ha
      have := h0 o e
      subst this
      exact .inr ⟨od, List.mem_cons_self ..⟩
    · rw [upd_ne ha]
      exact (R.old a o e nt).imp id fun ⟨ob, q⟩ => ⟨ob, List.mem_cons_of_mem _ q⟩
  · have ha : a ≠ d := fun z => by rw [z, upd_same] at e; cases e
    rw [upd_ne ha] at e
    exact R.nn a e
  · rcases List.mem_cons.mp hp with q | q
    · subst q; exact ⟨rfl, upd_same⟩
    · exact ⟨(R.lk p q).1, by rw [upd_ne (hl p q)]; exact (R.lk p q).2⟩
  · by_cases ha : a = d
    · subst ha; rw [upd_same] at e; cases e; exact .inr (List.mem_cons_self ..)
    · rw [upd_ne ha] at e
      exact (R.fz a ob u e).imp id (List.mem_cons_of_mem _)
  · obtain ⟨u, e1, r⟩ := w2 i x e
    refine ⟨u, e1, ?_⟩
    cases x with
    | no => trivial
    | sh d => exact r
    | ow dd => obtain ⟨a, o, q1, q2, q3, q4⟩ := r; exact ⟨a, o, q1, q2, by rw [upd_ne (hown a i q2)]; exact q3, q4⟩
    | my _ dd => obtain ⟨q0, a, o, q1, q2, q3, q4⟩ := r; exact ⟨q0, a, o, q1, q2, by rw [upd_ne (hown a i q2)]; exact q3, q4⟩
theorem rep_key {K : KW} {F : Hp} {k : Key} : Rep K F (keyD k) (kV k) := by cases k <;> rfl
/-- the items of a locked dict -/
theorem itOk_keys {N : En} {F : Hp} {K : KW} {d : Addr} {od : Obj} {kvs : List (Key × V)} {ks : List Key} {vs : List V} (ek : kvs = ks.zip vs) (hl : ks.length = vs.length) (hL : ∀ F' H', Same F F' → Sub F' H' → (∀ p ∈ N.L, H' p.1 = some (.frz p.2.1 p.2.2)) → (∀ a ob u, N.H0 a = some (.frz ob u) → H' a = some (.frz ob u)) → H' d = some (.frz od (.dK kvs))) :
    ItOk K N F (Itk d od kvs) (ks.map keyD) := fun F' H' s sb h1 h2 => by
  have hd := hL F' H' s sb h1 h2
  refine ⟨fun i x e => ?_, hd, by rw [ek, zip_len hl, List.length_map]; exact Nat.le_refl _⟩
  rw [List.getElem?_map] at e
  obtain ⟨k0, ek0, e⟩ := Option.map_eq_some_iff.mp e
  subst e
  have hi : i < kvs.length := by
    have := (List.getElem?_eq_some_iff.mp ek0).1
    rw [ek, zip_len hl]; exact this
  refine ⟨⟨hd, hi⟩, fun v H2 y => ?_⟩
  obtain ⟨e1, k1, v1, e2, e3⟩ := y
  subst e1 e3
  rw [ek] at e2
  have := (List.getElem?_zip_eq_some.mp e2).1
  rw [ek0] at this
  cases this
  exact ⟨F', .refl sb, rep_key⟩
def itemsD (ks : List Key) (xs : List D) : List D := (ks.zip xs).map fun p => D.tup [keyD p.1, p.2]
theorem itOk_items {N : En} {F : Hp} {K : KW} {d : Addr} {od : Obj} {kvs : List (Key × V)} {ks : List Key} {vs : List V} {xs : List D} (ek : kvs = ks.zip vs) (hl : ks.length = vs.length) (r : Reps K F xs vs)
    (hL : ∀ F' H', Same F F' → Sub F' H' → (∀ p ∈ N.L, H' p.1 = some (.frz p.2.1 p.2.2)) → (∀ a ob u, N.H0 a = some (.frz ob u) → H' a = some (.frz ob u)) → H' d = some (.frz od (.dK kvs))) : ItOk K N F (Iti d od kvs) (itemsD ks xs) := fun F' H' s sb h1 h2 => by
  have hd := hL F' H' s sb h1 h2
  have hl2 : ks.length = xs.length := by rw [hl, r.length]
  refine ⟨fun i x e => ?_, hd, by rw [ek, zip_len hl]; unfold itemsD; rw [List.length_map, List.length_zip, ← hl2]; simp⟩
  unfold itemsD at e
  rw [List.getElem?_map] at e
  obtain ⟨⟨k0, x0⟩, ez, e⟩ := Option.map_eq_some_iff.mp e
  subst e
  obtain ⟨ek0, ex0⟩ := List.getElem?_zip_eq_some.mp ez
  obtain ⟨v0, ev0, rv⟩ := r.get ex0
  have hi : i < kvs.length := by
    have := (List.getElem?_eq_some_iff.mp ek0).1
    rw [ek, zip_len hl]; exact this
  refine ⟨⟨hd, hi⟩, fun v H2 y => ?_⟩
  obtain ⟨T, k1, v1, e2, e3, hT, e4⟩ := y
  subst e3 e4
  rw [ek] at e2
  obtain ⟨z1, z2⟩ := List.getElem?_zip_eq_some.mp e2
  rw [ek0] at z1
  rw [ev0] at z2
  cases z1
  cases z2
  exact ⟨_, .laid sb hT, rep_pair sb hT rep_key (rv.mono s)⟩
theorem itOk_vals {N : En} {F : Hp} {K : KW} {d : Addr} {od : Obj} {kvs : List (Key × V)} {ks : List Key} {vs : List V} {xs : List D} (ek : kvs = ks.zip vs) (hl : ks.length = vs.length) (r : Reps K F xs vs)
    (hL : ∀ F' H', Same F F' → Sub F' H' → (∀ p ∈ N.L, H' p.1 = some (.frz p.2.1 p.2.2)) → (∀ a ob u, N.H0 a = some (.frz ob u) → H' a = some (.frz ob u)) → H' d = some (.frz od (.dK kvs))) : ItOk K N F (Itd d od kvs) xs := fun F' H' s sb h1 h2 => by
  have hd := hL F' H' s sb h1 h2
  refine ⟨fun i x ex0 => ?_, hd, by rw [ek, zip_len hl, hl, r.length]; exact Nat.le_refl _⟩
  obtain ⟨v0, ev0, rv⟩ := r.get ex0
  have hi : i < kvs.length := by
    have := (List.getElem?_eq_some_iff.mp ev0).1
    rw [ek, zip_len hl, hl]; exact this
  refine ⟨⟨hd, hi⟩, fun v H2 y => ?_⟩
  obtain ⟨e1, k1, e2⟩ := y
  subst e1
  rw [ek] at e2
  obtain ⟨z1, z2⟩ := List.getElem?_zip_eq_some.mp e2
  rw [ev0] at z2
  cases z2
  exact ⟨F', .refl sb, rv.mono s⟩
/-- a dict, evaluated and locked -/
theorem le_lk {te : TE} {de : DTE} (h : DE X e te de) (N : En) (F H : Hp) (σ : L2.St) (ρ : Rho) (P : D → Rho → Prop) (Q : VK) (R : RelS X.kw N F H σ ρ) (q : de ρ P) (hP : ∀ x ρ', P x ρ' → ∃ ks xs, x = .dk ks xs)
    (k : ∀ ks xs d od vs F' H' ρ' N', P (.dk ks xs) ρ' → Same F F' → RelS X.kw N' F' H' σ ρ' → Lkd X N N' F' → ks.length = vs.length → Reps X.kw F' xs vs → H' d = some (.frz od (.dK (ks.zip vs))) →
      (∀ F2 H2, Same F' F2 → Sub F2 H2 → (∀ p ∈ N'.L, H2 p.1 = some (.frz p.2.1 p.2.2)) → (∀ a ob u, N'.H0 a = some (.frz ob u) → H2 a = some (.frz ob u)) → H2 d = some (.frz od (.dK (ks.zip vs)))) → Q (.ref d) H') : tLk X te σ H Q := by
  refine h.le N F H σ ρ _ _ R q fun x v F1 H1 ρ1 q1 s1 R1 r1 => ?_
  obtain ⟨ks, xs, ex⟩ := hP x ρ1 q1
  subst ex
  obtain ⟨d, vs, ev, hq, hl, rr⟩ := r1
  subst ev
  refine ⟨d, rfl, ?_⟩
  rcases R1.sub.rdK hq with hH | ⟨od, hH⟩
  · have hF : F1 d = some (.dK (ks.zip vs)) := by
      rcases hq with hq | ⟨ob, hq⟩
      · exact hq
      · rcases R1.sub d _ hq with ⟨z, _⟩ | ⟨z, _⟩
        · rw [hH] at z; cases z
        · cases z
    refine .inr ⟨_, hH, fun od hn => ?_⟩
    obtain ⟨R2, hl2, h0⟩ := R1.lock hF hH od
    exact k ks xs d od vs F1 _ ρ1 _ q1 s1 R2 (.inr ⟨d, od, _, rfl, hn, hl2, h0, hF⟩) hl rr upd_same fun F2 H2 _ _ h1 _ => h1 (d, od, _) (List.mem_cons_self ..)
  · refine .inl ⟨od, _, hH, k ks xs d od vs F1 H1 ρ1 N q1 s1 R1 (.inl rfl) hl rr hH fun F2 H2 _ _ h1 h2 => ?_⟩
    rcases R1.fz d od _ hH with z | z
    · exact h2 _ _ _ z
    · exact h1 _ z
def dDk (de : DTE) (g : List Key → List D → List D) : DTI := fun ρ P => de ρ fun x ρ1 => ∃ ks xs, x = .dk ks xs ∧ P (g ks xs) ρ1
theorem dj_keys {tg : Expr} {te : TE} {de : DTE} (h : DE X e te de) : DJ X tg e (iKeys (tLk X te)) (dDk de fun ks _ => ks.map keyD) := ⟨pi_keys (pe_lk h.pe), fun N F H σ ρ P R RS q k => by
  refine le_lk h N F H σ ρ _ _ RS q (fun x ρ' ⟨ks, xs, ex, _⟩ => ⟨ks, xs, ex⟩) fun ks xs d od vs F1 H1 ρ1 N' q1 s1 R1 lk hl rr hd hL => ?_
  obtain ⟨ks', xs', e1, q1⟩ := q1
  cases e1
  exact ⟨d, od, rfl, .inl ⟨_, hd, k _ F1 H1 ρ1 _ N' q1 s1 R1 lk (itOk_keys rfl hl hL)⟩⟩⟩
theorem dj_items {elts : List Expr} {kk : Nat} {tpos apos : Pos} {te : TE} {de : DTE} (h : DE X e te de) (hbase : attributeBase e "items" X.env (eval e X.env) = eval e X.env := by rfl) (hline : (apos.endLine == pos.line) = true := by rfl) :
    DJ X (.Tuple elts kk tpos) (.Call (.Attribute e "items" apos) [] [] pos) (iItems (tLk X te)) (dDk de itemsD) := ⟨pi_items (pe_lk h.pe) hbase hline, fun N F H σ ρ P R RS q k => by
  refine le_lk h N F H σ ρ _ _ RS q (fun x ρ' ⟨ks, xs, ex, _⟩ => ⟨ks, xs, ex⟩) fun ks xs d od vs F1 H1 ρ1 N' q1 s1 R1 lk hl rr hd hL => ?_
  obtain ⟨ks', xs', e1, q1⟩ := q1
  cases e1
  exact ⟨d, od, _, rfl, hd, k _ F1 H1 ρ1 _ N' q1 s1 R1 lk (itOk_items rfl hl rr hL)⟩⟩
theorem dj_values {tg : Expr} {apos : Pos} {te : TE} {de : DTE} (h : DE X e te de) (hbase : attributeBase e "values" X.env (eval e X.env) = eval e X.env := by rfl) (hline : (apos.endLine == pos.line) = true := by rfl) :
    DJ X tg (.Call (.Attribute e "values" apos) [] [] pos) (iVals (tLk X te)) (dDk de fun _ xs => xs) := ⟨pi_values (pe_lk h.pe) hbase hline, fun N F H σ ρ P R RS q k => by
  refine le_lk h N F H σ ρ _ _ RS q (fun x ρ' ⟨ks, xs, ex, _⟩ => ⟨ks, xs, ex⟩) fun ks xs d od vs F1 H1 ρ1 N' q1 s1 R1 lk hl rr hd hL => ?_
  obtain ⟨ks', xs', e1, q1⟩ := q1
  cases e1
  exact ⟨d, od, _, rfl, hd, k _ F1 H1 ρ1 _ N' q1 s1 R1 lk (itOk_vals rfl hl rr hL)⟩⟩
/-- a for over what may be locked -/
theorem ds_forJ {tg iter : Expr} {wi : TI} {di : DTI} {g : TG} {dg : DTG} {is : List Nat} {body : List Stmt} {t : TS} {db : DTS} (hp : PassesOwn (model X.prog X.w) X.A X.env X.xe) (hc : X.calm = true) (hi : DJ X tg iter wi di) (hg : DG X tg g dg is) (hb : DSs X body t db) (hs : ∀ x, foldedSetIterable iter X.env x = pure x := by intro _; rfl) :
    DS X (.For tg iter body [] pos) (tUnlS X (tFor wi g t)) (sFor di dg db) := ⟨ps_unl (ps_for hp hc hi.pi hg.pg hb.ps hs), fun N F H σ ρ D E R hl q k =>
  hi.lj N F H σ ρ _ _ R q fun xs F1 H1 ρ1 J N' q1 s1 R1 lk ok => loop_d hg hb R1 hl ok q1
    ⟨fun F' H' σ' ρ' p s R' l => lk.un s R' fun H'' R'' => k.nx F' H'' σ' ρ' p (s1.trans s) R'' l, fun x v F' H' σ' ρ' p s R' r => lk.un s R' fun H'' R'' => k.rt x v F' H'' σ' ρ' p (s1.trans s) R'' r,
     fun F' H' σ' ρ' p s R' l => lk.un s R' fun H'' R'' => k.bk F' H'' σ' ρ' p (s1.trans s) R'' l, fun F' H' σ' ρ' p s R' l => lk.un s R' fun H'' R'' => k.ct F' H'' σ' ρ' p (s1.trans s) R'' l⟩⟩
end
end Dc

namespace Dc
open PySem PySem.Spec
open PyProof.Rows L2
variable [TabsT]

section
variable {X : Cx} {pos : Pos} {tg iter elt : Expr} {ifs : List Expr} {wi : TI} {di : DTI} {g : TG} {dg : DTG}
theorem Lkd.pend {N N' : En} {F1 F H : Hp} {σ : L2.St} {ρ : Rho} {s : Sl} {v : V} {Q : Hp → Prop} (l : Lkd X N N' F1) (sF : Same F1 F) (p : Pend X.kw N' F H σ ρ s v) (k : ∀ H', Pend X.kw N F H' σ ρ s v → Q H') : unlP X Q H := by
  cases s with
  | no => exact p.elim
  | my _ _ => exact p.elim
  | sh x => exact l.un sF p.1 fun H' R' => k H' ⟨R', p.2⟩
  | ow x =>
    rcases l with e | ⟨d, od, kvs, e, hn, hl, h0, hF1⟩
    · subst e
      exact .inl (k H p)
    · obtain ⟨a, o, ev, h1, hF, hH, R, sh⟩ := p
      subst e
      have hda : d ≠ a := fun z => by
        have := sF _ _ hF1
        rw [z, hF] at this; cases this
      have l2 : Lkd X (N.plus a o) { (N.plus a o) with L := (d, od, .dK kvs) :: N.L } F1 := .inr ⟨d, od, kvs, rfl, hn, hl, fun u e => h0 u (by rw [show (N.plus a o).H0 d = N.H0 d from upd_ne hda] at e; exact e), hF1⟩
      refine Lkd.un l2 sF R fun H' R' => k H' ⟨a, o, ev, h1, hF, R'.plus_at (fun ob u z => ?_) sh.nt, R', sh⟩
      have := (R.lk _ (List.mem_cons_of_mem _ z)).2
      rw [show H a = some o from hH] at this
      cases this
      exact sh.nofrz
theorem le_lcJ {scope : Scope} {own : List (Str × Nat)} {tt : TT} {dt : DTT} {tl : TE} {dl : DTE} {js : List Nat} (hi : DJ X tg iter wi di)
    (hg : Blk X scope fun Y => DG Y tg g dg js) (ht : Blk X scope fun Y => DTs Y ifs tt dt) (he : Blk X scope fun Y => DE Y elt tl dl) (hjs : ∀ j ∈ js, j ∈ own.map (·.2))
    (N : En) (F H : Hp) (σ : L2.St) (ρ : Rho) (P : Sl → Rho → Prop) (Q : VK) (R : RelS X.kw N F H σ ρ) (q : vOw (dLc di dg dt dl (own.map (·.2))) ρ P) (k : ∀ x v F' H' ρ', P x ρ' → Same F F' → Pend X.kw N F' H' σ ρ' x v → Q v H') :
    tLc wi g tt tl (own.map (·.2)) σ H (fun v => unlP X (Q v)) :=
  hi.lj N F H σ ρ _ _ R q fun xs F1 H1 ρ1 J N' q1 s1 R1 lk ok => lc_turns hg ht he hjs R1 ok q1 fun x v F' H' ρ' p s pd => lk.pend s pd fun H'' pd' => k x v F' H'' ρ' p (s1.trans s) pd'
theorem dv_lcJ {scope : Scope} {own : List (Str × Nat)} {tt : TT} {dt : DTT} {tl : TE} {dl : DTE} {js : List Nat} (hc : X.calm = true) (hN : X.N.Nodup) (hi : DJ X tg iter wi di) (ok : BlkOk X.N X.env.scope scope own)
    (hg : Blk X scope fun Y => DG Y tg g dg js) (ht : Blk X scope fun Y => DTs Y ifs tt dt) (he : Blk X scope fun Y => DE Y elt tl dl) (hjs : ∀ j ∈ js, j ∈ own.map (·.2)) (hs : ∀ x, foldedSetIterable iter X.env x = pure x := by intro _; rfl) :
    DV X (.ListComp elt [⟨tg, iter, ifs, 0⟩] scope pos) (tUnlE X (tLc wi g tt tl (own.map (·.2)))) (vOw (dLc di dg dt dl (own.map (·.2)))) :=
  ⟨pe_unl (pe_lc hc hN hi.pi ok (fun s H C cl fp => (hg s H C cl fp).pg) (fun s H C cl fp => (ht s H C cl fp).pt) (fun s H C cl fp => (he s H C cl fp).pe) hs), le_lcJ hi hg ht he hjs⟩
/-- name = [..], the name a local -/
theorem ds_setLcJ (i : Nat) {y : Str} {py spos : Pos} {scope : Scope} {own : List (Str × Nat)} {tt : TT} {dt : DTT} {tl : TE} {dl : DTE} {js : List Nat} (hc : X.calm = true) (hN : X.N.Nodup) (hi : DJ X tg iter wi di) (ok : BlkOk X.N X.env.scope scope own)
    (hg : Blk X scope fun Y => DG Y tg g dg js) (ht : Blk X scope fun Y => DTs Y ifs tt dt) (he : Blk X scope fun Y => DE Y elt tl dl) (hjs : ∀ j ∈ js, j ∈ own.map (·.2)) (hy : X.N[i]? = some y := by rfl) (hyl : X.env.scope.names.lookup y = some .local := by rfl)
    (hsw : swapsWith (.ListComp elt [⟨tg, iter, ifs, 0⟩] scope pos) (some (.Name y py)) spos.line X.env = pure true := by exact sw_true rfl rfl rfl (by decide +kernel)) (hs : ∀ x, foldedSetIterable iter X.env x = pure x := by intro _; rfl) :
    DS X (.Assign [.Name y py] (.ListComp elt [⟨tg, iter, ifs, 0⟩] scope pos) spos) (tUnlS X (tAsg (tLc wi g tt tl (own.map (·.2))) (gName i))) (sSet i (vOw (dLc di dg dt dl (own.map (·.2))))) :=
  ⟨ps_unl (ps_setLc hc hN hy hyl hsw hi.pi ok (fun s H C cl fp => (hg s H C cl fp).pg) (fun s H C cl fp => (ht s H C cl fp).pt) (fun s H C cl fp => (he s H C cl fp).pe) hs), fun N F H σ ρ D E R hl q k => by
    have hil : i < σ.length := by rw [← hl]; exact (List.getElem?_eq_some_iff.mp hy).1
    exact le_lcJ hi hg ht he hjs N F H σ ρ _ _ R q fun s v F1 H1 ρ1 q1 s1 R1 => k.nx F1 H1 _ _ q1 s1 (RelS.store R1 hil) (by simp)⟩

/-! ### dict comprehensions, keys ints and texts -/
def dDc (di : DTI) (dg : DTG) (dt : DTT) (dk de : DTE) (is : List Nat) : DTE := fun ρ P => di ρ fun xs ρ1 => OkW ρ1 is ∧ xs.length ≤ sizeLine ∧ ∃ W : Nat → List Key → List D → Prop, W 0 [] [] ∧ (∀ i x ks acc, xs[i]? = some x → W i ks acc → dg x (wipeR ρ1 is) fun ρ2 => dt ρ2 fun b ρ3 => ρ3 = ρ2 ∧
  (b = true → dk ρ3 fun y ρ4 => ρ4 = ρ3 ∧ de ρ4 fun z ρ5 => ρ5 = ρ4 ∧ ∃ k, dkey y = some k ∧ W (i + 1) (dputK ks k) (dputX ks acc k z)) ∧ (b = false → W (i + 1) ks acc)) ∧ ∀ ks acc, W xs.length ks acc → P (.dk ks acc) ρ1
theorem dputK_len {κ : Type} [DecidableEq κ] {ks : List κ} {k : κ} : (dputK ks k).length ≤ ks.length + 1 := by
  unfold dputK
  split <;> simp
theorem dc_turns {kx vx : Expr} {tt : TT} {dt : DTT} {tk tl : TE} {dk dl : DTE} {scope : Scope} {own : List (Str × Nat)} {js : List Nat} {J : It} {xs : List D} {N : En} {F1 H1 : Hp} {σ : L2.St} {ρ1 : Rho} {P : Sl → Rho → Prop} {Q : VK}
    (hg : Blk X scope fun Y => DG Y tg g dg js) (ht : Blk X scope fun Y => DTs Y ifs tt dt) (hk : Blk X scope fun Y => DE Y kx tk dk) (he : Blk X scope fun Y => DE Y vx tl dl) (hjs : ∀ j ∈ js, j ∈ own.map (·.2)) (R1 : RelS X.kw N F1 H1 σ ρ1) (ok : ItOk X.kw N F1 J xs)
    (q1 : OkW ρ1 (own.map (·.2)) ∧ xs.length ≤ sizeLine ∧ ∃ W : Nat → List Key → List D → Prop, W 0 [] [] ∧ (∀ i x ks acc, xs[i]? = some x → W i ks acc → dg x (wipeR ρ1 (own.map (·.2))) fun ρ2 => dt ρ2 fun b ρ3 => ρ3 = ρ2 ∧
      (b = true → dk ρ3 fun y ρ4 => ρ4 = ρ3 ∧ dl ρ4 fun z ρ5 => ρ5 = ρ4 ∧ ∃ k, dkey y = some k ∧ W (i + 1) (dputK ks k) (dputX ks acc k z)) ∧ (b = false → W (i + 1) ks acc)) ∧ ∀ ks acc, W xs.length ks acc → P (.ow (.dk ks acc)) ρ1)
    (k : ∀ x v F' H' ρ', P x ρ' → Same F1 F' → Pend X.kw N F' H' σ ρ' x v → Q v H') :
    ∀ D, H1 D = none → ∃ W : Nat → Nat → Hp → Prop, (∃ m, W 0 m (upd H1 D (.dK []))) ∧ ∀ i m H, W i m H →
      (J.stop i H ∧ Q (.ref D) H) ∨ (J.go i H ∧ ∃ Nx : Hp → Prop, (∀ H', Nx H' → ∃ m', m' < m ∧ W (i + 1) m' H') ∧ ∀ x H', J.yld i H x H' → g x (wipe σ (own.map (·.2))) H' fun σ2 H2 => wipe σ2 (own.map (·.2)) = wipe σ (own.map (·.2)) ∧ tt σ2 H2 fun b H3 =>
        if b = true then tk σ2 H3 fun y H4 => tl σ2 H4 fun z H5 => ∃ kvs k, y = kV k ∧ H5 D = some (.dK kvs) ∧ kvs.length < sizeLine ∧ Nx (upd H5 D (.dK (putK kvs k z))) else Nx H3) := by
  obtain ⟨okw, hsz, W, w0, step, fin⟩ := q1
  intro Dd hD
  have h0 := R1.fresh hD
  have hL : ∀ p ∈ N.L, p.1 ≠ Dd := fun p hp z => by
    have y := (R1.lk p hp).2
    rw [z, hD] at y; cases y
  refine ⟨fun i m H => m = xs.length - i ∧ i ≤ xs.length ∧ ∃ F ks av acc, Same F1 F ∧ F Dd = none ∧ H Dd = some (.dK (ks.zip av)) ∧ RelS X.kw (N.plus Dd (.dK (ks.zip av))) F H σ ρ1 ∧ Reps X.kw F acc av ∧ ks.length = av.length ∧ ks.length ≤ i ∧ W i ks acc, ⟨xs.length, by simp, Nat.zero_le _, F1, [], [], [], .refl _, R1.sub.free hD, upd_same, ?_, rfl, rfl, Nat.le_refl _, w0⟩, ?_⟩
  · obtain ⟨a, o, e, _, _, _, R2, sh⟩ := Pend.laid (x := .dk [] []) (o := .dK []) R1 ⟨[], rfl, rfl, rfl⟩ hD
    cases e
    have e3 : o = .dK [] := by
      have := R2.plus_at (fun ob u z => hL _ z rfl) sh.nt
      rw [upd_same] at this
      exact (Option.some.inj this).symm
    rw [e3] at R2
    exact R2
  · rintro i m H2 ⟨rfl, hi, F2, ks, av, acc, s2, hF2, hH2, R2, ra, hz, la, w⟩
    obtain ⟨go, stop⟩ := ok F2 H2 s2 R2.sub (fun p hp => (R2.lk p hp).2) fun a ob u e => R2.frz_at (by show upd N.H0 Dd _ a = _; rw [upd_ne (fun z => by rw [z, h0] at e; cases e)]; exact e)
    by_cases hlt : i < xs.length
    · obtain ⟨g1, g2⟩ := go i xs[i] (by simp [hlt])
      refine .inr ⟨g1, fun H' => ∃ F ks av acc, Same F1 F ∧ F Dd = none ∧ H' Dd = some (.dK (ks.zip av)) ∧ RelS X.kw (N.plus Dd (.dK (ks.zip av))) F H' σ ρ1 ∧ Reps X.kw F acc av ∧ ks.length = av.length ∧ ks.length ≤ i + 1 ∧ W (i + 1) ks acc, fun H' ⟨F, ks, av, acc, z⟩ => ⟨xs.length - (i + 1), by omega, rfl, hlt, F, ks, av, acc, z⟩, fun v H3 y => ?_⟩
      obtain ⟨F3, st, rv⟩ := g2 v H3 y
      have R3 := R2.step st
      have hF3 : ∀ {F' : Hp} {H' : Hp} {σ' : L2.St} {ρ' : Rho}, RelS X.kw (N.plus Dd (.dK (ks.zip av))) F' H' σ' ρ' → F' Dd = none := fun {F' H' σ' ρ'} R' => by
        cases z : F' Dd with
        | none => rfl
        | some u =>
          rcases R'.new Dd u z with y | y
          · have := R2.frz0 Dd u y
            rw [hF2] at this; cases this
          · rw [show (N.plus Dd (.dK (ks.zip av))).H0 Dd = some (.dK (ks.zip av)) from upd_same] at y; cases y
      have wl : (wipe σ (own.map (·.2))).length = σ.length := wipe_length _ _
      obtain ⟨sb, Hb, Cb, cb, fb, hz'⟩ : ∃ (s : Shared) (H : Hp) (C : Addr) (cl : List (Str × Addr)) (fp : List Addr), True := ⟨X.s_0, X.H_0, 0, [], [], trivial⟩
      refine (hg sb Hb Cb cb fb).lg _ F3 H3 _ _ _ v _ _ (R3.wiped _) rv (step i _ ks acc (by simp [hlt]) w) fun σ4 ρ4 q4 R4 l4 t4 => ?_
      have same4 : ∀ j, j ∉ own.map (·.2) → σ4[j]? = σ[j]? ∧ ρ4[j]? = ρ1[j]? := fun j hj => by
        obtain ⟨z1, z2⟩ := t4 j fun z => hj (hjs j z)
        exact ⟨z1.trans (wipe_out1 hj), z2.trans (wipeR_out hj)⟩
      refine ⟨wipe_eq (l4.trans wl) fun j hj => (same4 j hj).1, ?_⟩
      refine (ht sb Hb Cb cb fb).lt _ F3 H3 σ4 ρ4 _ _ R4 q4 fun b F5 H5 ρ5 q5 s5 R5 => ?_
      obtain ⟨e5, qt, qf⟩ := q5
      subst e5
      cases b with
      | true =>
        rw [if_pos rfl]
        refine (hk sb Hb Cb cb fb).le _ F5 H5 σ4 ρ5 _ _ R5 (qt rfl) fun y v' F6 H6 ρ6 q6 s6 R6 r6 => ?_
        obtain ⟨e6, q6⟩ := q6
        subst e6
        refine (he sb Hb Cb cb fb).le _ F6 H6 σ4 ρ6 _ _ R6 q6 fun y' v'' F7 H7 ρ7 q7 s7 R7 r7 => ?_
        obtain ⟨e7, kk, hkk, w7⟩ := q7
        subst e7
        have ev := dkey_rep' hkk (r6.mono s7)
        subst ev
        have sm : Same F2 F7 := ((st.ff.trans s5).trans s6).trans s7
        have Rb : RelS X.kw (N.plus Dd (.dK (ks.zip av))) F7 H7 σ ρ1 := R2.back R7 sm okw same4
        have hD6 := Rb.plus_at fun ob u z => hL _ z rfl
        refine ⟨_, kk, rfl, hD6, by rw [zip_len hz]; omega, F7, dputK ks kk, dputX ks av kk v'', dputX ks acc kk y', s2.trans sm, hF3 Rb, by rw [upd_same, putK_zip hz], ?_, (ra.mono sm).dput r7, dput_len hz, Nat.le_trans dputK_len (by omega), w7⟩
        rw [putK_zip hz]
        exact Rb.plus_upd (hF3 Rb) hD6 hL
      | false =>
        rw [if_neg Bool.false_ne_true]
        have sm : Same F2 F5 := st.ff.trans s5
        have Rb : RelS X.kw (N.plus Dd (.dK (ks.zip av))) F5 H5 σ ρ1 := R2.back R5 sm okw same4
        exact ⟨F5, ks, av, acc, s2.trans sm, hF3 Rb, Rb.plus_at fun ob u z => hL _ z rfl, Rb, ra.mono sm, hz, Nat.le_succ_of_le la, qf rfl⟩
    · have e : i = xs.length := by omega
      subst e
      exact .inl ⟨stop, k _ _ F2 H2 ρ1 (fin ks acc w) s2 ⟨Dd, _, rfl, h0, hF2, hH2, R2, av, rfl, hz, ra⟩⟩
theorem dv_dc {kx vx : Expr} {scope : Scope} {own : List (Str × Nat)} {tt : TT} {dt : DTT} {tk tl : TE} {dk dl : DTE} {js : List Nat} (hc : X.calm = true) (hN : X.N.Nodup) (hi : DJ X tg iter wi di) (ok : BlkOk X.N X.env.scope scope own)
    (hg : Blk X scope fun Y => DG Y tg g dg js) (ht : Blk X scope fun Y => DTs Y ifs tt dt) (hk : Blk X scope fun Y => DE Y kx tk dk) (he : Blk X scope fun Y => DE Y vx tl dl) (hjs : ∀ j ∈ js, j ∈ own.map (·.2)) (hs : ∀ x, foldedSetIterable iter X.env x = pure x := by intro _; rfl) :
    DV X (.DictComp kx vx [⟨tg, iter, ifs, 0⟩] scope pos) (tUnlE X (tDc wi g tt tk tl (own.map (·.2)))) (vOw (dDc di dg dt dk dl (own.map (·.2)))) :=
  ⟨pe_unl (pe_dc hc hN hi.pi ok (fun s H C cl fp => (hg s H C cl fp).pg) (fun s H C cl fp => (ht s H C cl fp).pt) (fun s H C cl fp => (hk s H C cl fp).pe) (fun s H C cl fp => (he s H C cl fp).pe) hs), fun N F H σ ρ P Q R q k =>
    hi.lj N F H σ ρ _ _ R q fun xs F1 H1 ρ1 J N' q1 s1 R1 lk ok => dc_turns hg ht hk he hjs R1 ok q1 fun x v F' H' ρ' p s pd => lk.pend s pd fun H'' pd' => k x v F' H'' ρ' p (s1.trans s) pd'⟩
end
end Dc

namespace Dc
open PySem PySem.Spec
open PyProof.Rows L2
variable [TabsT]

/-! ### sorted -/
def py (d : D) : PyData := (toPy d).getD .none
def leD : D → D → Bool := PySem.W.dataLe false py
def leC : D × V → D × V → Bool := PySem.W.dataLe false fun b => py b.1
/-- what can be sorted so -/
structure SortOk (xs : List D) : Prop where
  py : ∃ ps, toPys xs = some ps
  al : PySem.W.AllAlike (xs.map Dc.py)
  so : PySem.W.Sortable (xs.map Dc.py)
  dp : ∀ x ∈ xs, (Dc.py x).depth ≤ 32
  ln : xs.length ≤ sizeLine
theorem eachIs_vals : ∀ {bs : List (D × V)} {us : List Value}, Vals (bs.map (·.2)) us → PySem.W.EachIs (fun u (b : D × V) => RelV b.2 u) us bs
  | [], _, r => by cases r; exact .nil
  | b :: bs, _, r => by
    cases r with
    | cons r t => exact .cons r (eachIs_vals t)
theorem vals_eachIs : ∀ {bs : List (D × V)} {us : List Value}, PySem.W.EachIs (fun u (b : D × V) => RelV b.2 u) us bs → Vals (bs.map (·.2)) us
  | _, _, .nil => .nil
  | _, _, .cons r t => .cons r (vals_eachIs t)
theorem reads_each {X : Cx} {pins : List (Addr × Obj)} {σ : L2.St} {H : Hp} {s : Shared} (I : Inv X pins σ H s) : ∀ {bs : List (D × V)} {us : List Value}, (∀ b ∈ bs, Dp X.K H b.2 (py b.1)) → Vals (bs.map (·.2)) us → PySem.W.EachIs (fun u (b : D × V) => ∃ as, Reads s.heap u (py b.1) as) us bs
  | [], _, _, r => by cases r; exact .nil
  | b :: bs, _, h, r => by
    cases r with
    | cons r t => exact .cons (Dp.reads I _ _ _ (h b (List.mem_cons_self ..)) r) (reads_each I (fun c hc => h c (List.mem_cons_of_mem _ hc)) t)
structure SrtC (K : PySem.W.Frag) (H : Hp) (bs : List (D × V)) : Prop where
  dp : ∀ b ∈ bs, Dp K H b.2 (py b.1)
  al : PySem.W.AllAlike (bs.map fun b => py b.1)
  so : PySem.W.Sortable (bs.map fun b => py b.1)
  de : ∀ b ∈ bs, (py b.1).depth ≤ 32
  ln : bs.length ≤ sizeLine
def rSrtL (K : PySem.W.Frag) : List V → Hp → VK → Prop := fun vs H Q => ∃ (a : Addr) (bs : List (D × V)), vs = [.ref a] ∧ SqL K H a (bs.map (·.2)) ∧ SrtC K H bs ∧ ∀ p, H p = none → Q (.ref p) (upd H p (.lst ((bs.mergeSort leC).map (·.2))))
theorem cr_srtL {X : Cx} (hu : X.A.units + 64 < cLine) : CallR X (.builtin "sorted") (rSrtL X.K) := by
  intro pins s σ H xs us Q I r h
  obtain ⟨a, bs, rfl, hq, c, q⟩ := h
  obtain ⟨u, rfl, rx⟩ := vals1 r
  cases rx
  obtain ⟨its, rv, pl, hz⟩ := I.list hq
  have hlen := rv.length
  rw [List.length_map] at hlen
  refine PySem.W.sorted_data (β := D × V) (R := fun u b => RelV b.2 u) (enc := fun b => py b.1) (bs := bs) (vs := its) pl.isList (eachIs_vals rv) (reads_each I c.dp rv) c.al c.so c.ln (fun b hb => by have := c.de b hb; omega) fun out hl e => ?_
  obtain ⟨n, hat⟩ := sortedAll_at s.heap its out.toArray
  have hsz : ((bs.mergeSort leC).map (·.2)).length ≤ sizeLine := by rw [List.length_map, List.length_mergeSort]; exact c.ln
  exact ⟨.ref (s.heap.objs.size + 1), _, I.laid (t' := s.toks) (fun b o e => sortedAll_old e) (Nat.le_succ _) (show ObjOk X.prog X.w _ _ _ (.lst ((bs.mergeSort leC).map (·.2))) from ⟨hsz, out, n, vals_eachIs e, hat⟩), rfl, q _ (I.hok.fresh (Nat.le_succ _))⟩
mutual
theorem reads_lt {h : Heap} : ∀ {v : Value} {d : PyData} {as : List Addr}, Reads h v d as → ∀ a ∈ as, a < h.objs.size
  | _, _, _, .none, _, hm => absurd hm (by simp)
  | _, _, _, .bool _, _, hm => absurd hm (by simp)
  | _, _, _, .int _ _, _, hm => absurd hm (by simp)
  | _, _, _, .str _ _, _, hm => absurd hm (by simp)
  | _, _, _, .list e _ _ r, a, hm => by
    rcases List.mem_cons.mp hm with q | q
    · subst q; exact Heap.lt_size e
    · exact readsAll_lt r a q
  | _, _, _, .tuple e _ _ r, a, hm => readsAll_lt r a hm
  | _, _, _, .dict e _ _ r t, a, hm => by
    rcases List.mem_append.mp hm with q | q
    · rcases List.mem_cons.mp q with q | q
      · subst q; exact Heap.lt_size e
      · exact readsAll_lt r a q
    · exact readsAll_lt t a q
theorem readsAll_lt {h : Heap} : ∀ {vs : List Value} {ds : List PyData} {as : List Addr}, ReadsAll h vs ds as → ∀ a ∈ as, a < h.objs.size
  | _, _, _, .nil, _, hm => absurd hm (by simp)
  | _, _, _, .cons r t, a, hm => by
    rcases List.mem_append.mp hm with q | q
    · exact reads_lt r a q
    · exact readsAll_lt t a q
end
theorem vals_at : ∀ {xs : List V} {us : List Value}, xs.length = us.length → (∀ (i : Nat) (x : V) (u : Value), xs[i]? = some x → us[i]? = some u → RelV x u) → Vals xs us
  | [], [], _, _ => .nil
  | x :: xs, u :: us, hl, h => .cons (h 0 x u rfl rfl) (vals_at (by simpa using hl) fun i a b e f => h (i + 1) a b (by simpa using e) (by simpa using f))
  | [], _ :: _, hl, _ => by simp at hl
  | _ :: _, [], hl, _ => by simp at hl
/-- .. a dict: its keys -/
def rSrtD (w : World) (K : PySem.W.Frag) : List V → Hp → VK → Prop := fun vs H Q => ∃ (a : Addr) (bs : List (D × V)), vs = [.ref a] ∧ ((∃ kvs, Rd H a (.dK kvs) ∧ kvs.map (fun p => kV p.1) = bs.map (·.2)) ∨ (∃ kqs vs', H a = some (DnO w a kqs vs') ∧ kqs.map (fun p => V.ref p.2) = bs.map (·.2))) ∧
  SrtC K H bs ∧ ∀ p, H p = none → Q (.ref p) (upd H p (.lst ((bs.mergeSort leC).map (·.2))))
theorem cr_srtD {X : Cx} (hu : X.A.units + 64 < cLine) (hcalm : X.calm = true) : CallR X (.builtin "sorted") (rSrtD X.w X.K) := by
  intro pins s σ H xs us Q I r h
  obtain ⟨a, bs, rfl, hd, c, q⟩ := h
  obtain ⟨u, rfl, rx⟩ := vals1 r
  cases rx
  -- the raw dict
  obtain ⟨lo, es, ep, raw, hks⟩ : (a == sysModules) = false ∧ ∃ es ep, s.heap.DictRaw a es ep ∧ Vals (bs.map (·.2)) (es.toList.map (·.key)) := by
    rcases hd with ⟨kvs, hr, ek⟩ | ⟨kqs, vs', hr, ek⟩
    · obtain ⟨z, lo, vs, rel, dd⟩ := dk_rd I.hok hr
      obtain ⟨es, ep, raw, hsz, hk⟩ := dd.raw
      refine ⟨lo, es, ep, raw, ?_⟩
      rw [← ek]
      refine vals_at (by simp [hsz, (show kvs.length = vs.length from rel.length)]) fun i x y ex ey => ?_
      rw [List.getElem?_map] at ex ey
      obtain ⟨kv, e1, e2⟩ := Option.map_eq_some_iff.mp ex
      obtain ⟨en, e3, e4⟩ := Option.map_eq_some_iff.mp ey
      subst e2 e4
      have hi : i < es.size := by rw [← Array.length_toList]; exact (List.getElem?_eq_some_iff.mp e3).1
      obtain ⟨u, hu', ru⟩ := kv_get rel (by rw [e1])
      have e5 : es[i] = en := by
        rw [Array.getElem?_toList, Array.getElem?_eq_getElem hi] at e3
        exact Option.some.inj e3
      rw [← e5]
      exact relV_key (hk i hi _ _ hu').1
    · obtain ⟨⟨xs, hk, rv, hz, lo, nd, o, es, ep, ho, ex, hdat, he⟩, _⟩ := (show ObjOk X.prog X.w H s.heap a (DnO X.w a kqs vs') from I.hok a _ hr)
      refine ⟨lo, es, ep, ⟨o, ho, ex, hdat⟩, ?_⟩
      rw [← ek, he, hk, List.map_map, List.map_map]
      refine vals_at (by simp) fun i x y ex ey => ?_
      rw [List.getElem?_map] at ex ey
      cases e1 : xs[i]? with
      | none => rw [e1] at ex; cases ex
      | some z =>
        rw [e1] at ex ey
        cases ex
        cases ey
        rfl
  have hlen : es.size = bs.length := by
    have := hks.length
    rw [List.length_map, List.length_map, Array.length_toList] at this
    exact this.symm
  refine Calls.call_function_entry PyProof.Rows.kind_sorted PyProof.Rows.plain_sorted PyProof.Rows.entry_sorted (PyProof.Rows.args_sorted1 _) ?_
  unfold Builtin.«sorted»
  refine wpAny_bind (m := checkCount "sorted" 1 1 _) (wpAny_pure ?_)
  refine wpAny_bind (PySem.W.kdu_collect (A := X.A.in1) (PySem.KdlSrc.rawDict (es := es) (ep := ep) lo) (I.ok.hd hcalm) raw (by rw [hlen]; exact c.ln) fun h' tk acc hk hacc => ?_)
  have hv : Vals (bs.map (·.2)) acc.toList := by
    have e : acc.toList = es.toList.map (·.key) := by
      apply List.ext_getElem?
      intro j
      by_cases hj : j < acc.size
      · obtain ⟨hi, ev⟩ := hacc.2 j acc[j] (by simp [hj])
        rw [List.getElem?_map, Array.getElem?_toList, Array.getElem?_toList, Array.getElem?_eq_getElem hj, Array.getElem?_eq_getElem hi, ev]
        rfl
      · rw [List.getElem?_eq_none (by rw [Array.length_toList]; omega), List.getElem?_eq_none (by rw [List.length_map, Array.length_toList]; have := hacc.1; omega)]
    rw [e]
    exact hks
  have hal : acc.toList.length = bs.length := by rw [← hv.length, List.length_map]
  have I1 : Inv X pins σ H { s with heap := h', toks := tk } := I.kept hk
  refine wpAny_bind (wpAny_newList ?_ (by rw [hal]; exact c.ln))
  have hoL : (h'.push (seqObj "list" acc.toList.toArray 0)).get? h'.objs.size = some (seqObj "list" acc.toList.toArray 0) := Heap.get?_push_size _ rfl
  show wpAny _ _ _ _ _ { s with heap := h'.push (seqObj "list" acc.toList.toArray 0), toks := tk }
  have er0 := reads_each I1 c.dp hv
  have kp : ∀ b o, h'.get? b = some o → (h'.push (seqObj "list" acc.toList.toArray 0)).get? b = some o := fun b o e => Heap.get?_push_of_some _ e
  have er : PySem.W.EachIs (fun v (b : D × V) => ∃ as, Reads (h'.push (seqObj "list" acc.toList.toArray 0)) v (py b.1) as ∧ h'.objs.size ∉ as) acc.toList bs := er0.mono fun v b ⟨as, r⟩ => ⟨as, PyProof.Rows.Reads.keeps kp r, fun hm => Nat.lt_irrefl _ (reads_lt r _ hm)⟩
  refine wpAny_bind (wpAny_holding (PySem.W.list_sort_data (β := D × V) (R := fun u b => RelV b.2 u) (enc := fun b => py b.1) (bs := bs) (vs := acc.toList) (s := { s with heap := h'.push (seqObj "list" acc.toList.toArray 0), toks := tk }) hoL (eachIs_vals hv) er c.al c.so c.ln (fun b hb => by have := c.de b hb; show X.A.units + 1 + 1 + _ < _; omega) fun out hl e => ?_))
  obtain ⟨e', he'⟩ := PyProof.Rows.sortedHeap_at (vs := acc.toList) (out := out.toArray) hoL
  have hsz : ((bs.mergeSort leC).map (·.2)).length ≤ sizeLine := by rw [List.length_map, List.length_mergeSort]; exact c.ln
  refine wpAny_pure ⟨_, rfl, .ref h'.objs.size, upd H h'.objs.size (.lst ((bs.mergeSort leC).map (·.2))), I1.laid (t' := tk) (fun b u e => ?_) (Nat.le_refl _)
    (show ObjOk X.prog X.w _ _ _ (.lst ((bs.mergeSort leC).map (·.2))) from ⟨hsz, out, e', vals_eachIs e, he'⟩), rfl, q _ (I1.hok.fresh (Nat.le_refl _))⟩
  have hb : b < h'.objs.size := Heap.lt_size e
  rw [PyProof.Rows.sortedHeap_old (Nat.ne_of_lt hb) (by rw [size_push']; exact Nat.lt_succ_of_lt hb)]
  exact Heap.get?_push_of_some _ e

/-! .. over data -/
section
variable {K : KW} {N : En} {F H : Hp} {σ : L2.St} {ρ : Rho}
theorem reps_zip : ∀ {xs : List D} {vs : List V}, Reps K F xs vs → ∀ c ∈ xs.zip vs, Rep K F c.1 c.2
  | [], _, _, _, hc => by simp at hc
  | d :: ds, _, ⟨v, r, e, h1, h2⟩, c, hc => by
    subst e
    rw [List.zip_cons_cons] at hc
    rcases List.mem_cons.mp hc with q | q
    · subst q; exact h1
    · exact reps_zip h2 c q
theorem reps_of : ∀ {cs : List (D × V)}, (∀ c ∈ cs, Rep K F c.1 c.2) → Reps K F (cs.map (·.1)) (cs.map (·.2))
  | [], _ => rfl
  | c :: cs, h => .cons (h c (List.mem_cons_self ..)) (reps_of fun d hd => h d (List.mem_cons_of_mem _ hd))
theorem toPys_mem : ∀ {ds : List D} {ps : List PyData}, toPys ds = some ps → ∀ d ∈ ds, ∃ p, toPy d = some p
  | [], _, _, _, hd => by simp at hd
  | d :: ds, _, e, x, hx => by
    obtain ⟨p, hp, e⟩ := Option.bind_eq_some_iff.mp (show (toPy d).bind _ = _ from e)
    obtain ⟨ps, hps, e⟩ := Option.map_eq_some_iff.mp e
    rcases List.mem_cons.mp hx with q | q
    · subst q; exact ⟨p, hp⟩
    · exact toPys_mem hps x q
theorem zip_fst {α β : Type} {xs : List α} {vs : List β} (h : xs.length = vs.length) : (xs.zip vs).map (·.1) = xs := List.map_fst_zip (by omega)
theorem zip_snd {α β : Type} {xs : List α} {vs : List β} (h : xs.length = vs.length) : (xs.zip vs).map (·.2) = vs := List.map_snd_zip (by omega)
theorem srtC_of (s : Sub F H) {xs : List D} {vs : List V} (r : Reps K F xs vs) (ok : SortOk xs) : SrtC K.K H (xs.zip vs) := by
  obtain ⟨ps, hps⟩ := ok.py
  have e : (xs.zip vs).map (fun b => py b.1) = xs.map py := by
    have h := congrArg (List.map py) (zip_fst r.length)
    rw [List.map_map] at h
    exact h
  refine ⟨fun b hb => ?_, by rw [e]; exact ok.al, by rw [e]; exact ok.so, fun b hb => ok.dp _ (List.of_mem_zip hb).1, by rw [List.length_zip, ← r.length, Nat.min_self]; exact ok.ln⟩
  obtain ⟨p, hp⟩ := toPys_mem hps b.1 (List.of_mem_zip hb).1
  have : py b.1 = p := by unfold py; rw [hp]; rfl
  rw [this]
  exact dp_of s (reps_zip r b hb) hp
theorem sort_reps {xs : List D} {vs : List V} (r : Reps K F xs vs) : Reps K F (xs.mergeSort leD) (((xs.zip vs).mergeSort leC).map (·.2)) := by
  have e : ((xs.zip vs).mergeSort leC).map (·.1) = xs.mergeSort leD := by
    rw [List.map_mergeSort (r := leC) (s := leD) (f := fun c : D × V => c.1) fun _ _ _ _ => rfl, zip_fst r.length]
  rw [← e]
  exact reps_of fun c hc => reps_zip r c ((List.mergeSort_perm _ _).mem_iff.mp hc)
def rdSrtL : List D → (D → Prop) → Prop := fun xs P => match xs with
  | [.lst ys] => SortOk ys ∧ P (.lst (ys.mergeSort leD))
  | _ => False
theorem lc_srtL : LC K (rSrtL K.K) rdSrtL := by
  intro N F H σ ρ xs vs P Q R o h k
  unfold rdSrtL at h
  split at h
  · obtain ⟨ok, hp⟩ := h
    obtain ⟨v, rfl, hv⟩ := o.one
    obtain ⟨a, us, e, hq, hl, r⟩ := R.opd hv
    refine ⟨a, (‹List D›).zip us, by rw [e], by rw [zip_snd r.length]; exact hq, srtC_of R.sub r ok, lay_lst R (sort_reps r) (by rw [List.length_mergeSort]; exact ok.ln) hp k⟩
  · exact h.elim
def rdSrtD : List D → (D → Prop) → Prop := fun xs P => match xs with
  | [.dk ks _] => SortOk (ks.map keyD) ∧ P (.lst ((ks.map keyD).mergeSort leD))
  | [.dn ks _] => SortOk ks ∧ P (.lst (ks.mergeSort leD))
  | _ => False
theorem keys_reps {ks : List Key} : Reps K F (ks.map keyD) (ks.map kV) := Reps.map_of keyD kV (fun k => by cases k <;> rfl) ks
theorem repKs_reps : ∀ {ds : List D} {kqs : List (NestedKey × Addr)}, RepKs K F ds kqs → Reps K F ds (kqs.map fun p => .ref p.2)
  | [], _, h => by cases (show _ = [] from h); rfl
  | d :: ds, _, ⟨k, q, r, e1, _, _, h1, h2⟩ => by rw [e1]; exact .cons h1 (repKs_reps h2)
theorem lc_srtD : LC K (rSrtD K.w K.K) rdSrtD := by
  intro N F H σ ρ xs vs P Q R o h k
  unfold rdSrtD at h
  split at h
  · rename_i ks ys
    obtain ⟨ok, hp⟩ := h
    obtain ⟨v, rfl, hv⟩ := o.one
    obtain ⟨a, us, e, hq, hl, r⟩ := R.opd hv
    have r2 : Reps K F (ks.map keyD) (ks.map kV) := keys_reps
    refine ⟨a, (ks.map keyD).zip (ks.map kV), by rw [e], .inl ⟨_, hq, ?_⟩, srtC_of R.sub r2 ok, lay_lst R (sort_reps r2) (by rw [List.length_mergeSort]; exact ok.ln) hp k⟩
    rw [zip_snd (by simp)]
    have h := congrArg (List.map kV) (zip_fst hl)
    rw [List.map_map] at h
    exact h
  · rename_i ks ys
    obtain ⟨ok, hp⟩ := h
    obtain ⟨v, rfl, hv⟩ := o.one
    obtain ⟨a, kqs, us, e, hq, rk, r⟩ := R.opd hv
    have r2 := repKs_reps rk
    refine ⟨a, ks.zip (kqs.map fun p => .ref p.2), by rw [e], .inr ⟨_, _, hq, ?_⟩, srtC_of R.sub r2 ok, lay_lst R (sort_reps r2) (by rw [List.length_mergeSort]; exact ok.ln) hp k⟩
    rw [zip_snd r2.length]
  · exact h.elim
end
end Dc

namespace Dc
open PySem PySem.Spec
open PyProof.Rows L2
variable [TabsT]

/-! ### dicts whose keys are tuples -/
mutual
def NkV (K : PySem.W.Frag) (H : Hp) : NestedKey → V → Prop
  | .none, v => v = .non
  | .num i, v => v = .int i
  | .text x, v => v = .str x
  | .tup ks, v => ∃ a vs, v = .ref a ∧ SqT K H a vs ∧ NkVs K H ks vs
def NkVs (K : PySem.W.Frag) (H : Hp) : List NestedKey → List V → Prop
  | [], vs => vs = []
  | k :: ks, vs => ∃ v r, vs = v :: r ∧ NkV K H k v ∧ NkVs K H ks r
end
section
variable {X : Cx} {pins : List (Addr × Obj)} {σ : L2.St} {H : Hp} {s : Shared}
mutual
theorem NkV.is (I : Inv X pins σ H s) : ∀ {k : NestedKey} {v : V} {u : Value}, NkV X.K H k v → RelV v u → NestedIs s.heap k u
  | .none, _, _, h, r => by cases (show _ = V.non from h); cases r; exact .none
  | .num i, _, _, h, r => by cases (show _ = V.int i from h); obtain ⟨t, e⟩ := r; subst e; exact .int i t
  | .text x, _, _, h, r => by cases (show _ = V.str x from h); obtain ⟨t, e⟩ := r; subst e; exact .text x t
  | .tup ks, _, _, ⟨a, vs, e, hq, h⟩, r => by
    subst e
    cases r
    obtain ⟨its, rv, ⟨o, ho, hc, n, hd⟩, _⟩ := I.tuple hq
    exact .tup ho hc hd (by simpa using NkVs.is I h rv)
theorem NkVs.is (I : Inv X pins σ H s) : ∀ {ks : List NestedKey} {vs : List V} {us : List Value}, NkVs X.K H ks vs → Vals vs us → NestedAll s.heap ks us
  | [], _, _, h, r => by cases (show _ = [] from h); cases r; exact .nil
  | k :: ks, _, _, ⟨v, vr, e, h1, h2⟩, r => by
    subst e
    cases r with
    | cons r t => exact .cons (NkV.is I h1 r) (NkVs.is I h2 t)
end
/-- the keys of a dict stand -/
def KsH (K : PySem.W.Frag) (H : Hp) (kqs : List (NestedKey × Addr)) : Prop := ∀ p ∈ kqs, NkV K H p.1 (.ref p.2) ∧ p.1.depth ≤ 8
theorem dnOk {P : Program} {w : World} {H : Hp} {h : Heap} {a : Addr} {kqs : List (NestedKey × Addr)} {vs : List V} (d : DnAt w a kqs vs h) : ObjOk P w H h a (DnO w a kqs vs) := by
  refine ⟨d, ?_, fun h1 h2 d1 k => ?_⟩
  · obtain ⟨_, _, _, _, _, _, o, _, _, e, _⟩ := d
    exact ⟨o, e⟩
  · obtain ⟨xs, e1, rv, z, lo, nd, o, es, ep, e, r⟩ := d1
    exact ⟨xs, e1, rv, z, lo, nd, o, es, ep, k o e, r⟩
theorem dn_at (I : Inv X pins σ H s) {a : Addr} {kqs : List (NestedKey × Addr)} {vs : List V} (h : H a = some (DnO X.w a kqs vs)) (hk : KsH X.K H kqs) :
    ∃ xs : List (NestedKey × Addr × Value), kqs = xs.map (fun x => (x.1, x.2.1)) ∧ Vals vs (xs.map fun x => x.2.2) ∧ xs.length ≤ sizeLine ∧ (a == sysModules) = false ∧ s.heap.DictOfH (nestedKind X.prog X.w) a xs := by
  obtain ⟨⟨xs, e1, rv, z, lo, nd, o, es, ep, ho, ex, hd, he⟩, _⟩ := (show ObjOk X.prog X.w H s.heap a (DnO X.w a kqs vs) from I.hok a _ h)
  refine ⟨xs, e1, rv, z, lo, o, es, ep, ho, ex, hd, he, fun x hx => ?_, nd⟩
  obtain ⟨h1, h2⟩ := hk (x.1, x.2.1) (by rw [e1]; exact List.mem_map.mpr ⟨x, hx, rfl⟩)
  exact ⟨NkV.is I h1 rfl, h2⟩
theorem dn_of {w : World} {P : Program} {a : Addr} {xs : List (NestedKey × Addr × Value)} {vs : List V} {h : Heap} (d : h.DictOfH (nestedKind P w) a xs) (rv : Vals vs (xs.map fun x => x.2.2)) (z : xs.length ≤ sizeLine) (lo : (a == sysModules) = false) : DnAt w a (xs.map fun x => (x.1, x.2.1)) vs h := by
  obtain ⟨o, es, ep, ho, ex, hd, he, _, nd⟩ := d
  exact ⟨xs, rfl, rv, z, lo, nd, o, es, ep, ho, ex, hd, he⟩
/-! the entries, one more put in -/
def hasQ (kqs : List (NestedKey × Addr)) (k : NestedKey) : Bool := kqs.any fun p => decide (p.1 = k)
def putQ (kqs : List (NestedKey × Addr)) (k : NestedKey) (q : Addr) : List (NestedKey × Addr) := if hasQ kqs k then kqs else kqs ++ [(k, q)]
def putW {α : Type} (kqs : List (NestedKey × Addr)) (vs : List α) (k : NestedKey) (v : α) : List α := if hasQ kqs k then List.zipWith (fun p x => if p.1 = k then v else x) kqs vs else vs ++ [v]
theorem atKey_has (k : NestedKey) : ∀ xs : List (NestedKey × Addr × Value), (atKey xs k).isSome = hasQ (xs.map fun x => (x.1, x.2.1)) k
  | [] => rfl
  | x :: xs => by
    have ih := atKey_has k xs
    unfold atKey hasQ at ih ⊢
    by_cases hk : x.1 = k
    · simp [hk]
    · rw [List.find?_cons, List.map_cons, List.any_cons]
      simp only [hk, decide_false, Bool.false_or]
      exact ih
theorem zipW_vals {k : NestedKey} {v : V} {u : Value} (r : RelV v u) : ∀ {xs : List (NestedKey × Addr × Value)} {vs : List V}, Vals vs (xs.map fun x => x.2.2) → Vals (List.zipWith (fun (p : NestedKey × Addr) x => if p.1 = k then v else x) (xs.map fun x => (x.1, x.2.1)) vs) ((xs.map (putAt k u)).map fun x => x.2.2)
  | [], _, h => by cases h; exact .nil
  | x :: xs, _, h => by
    cases h with
    | cons r1 t =>
      rw [List.map_cons, List.zipWith_cons_cons, List.map_cons, List.map_cons]
      refine .cons ?_ (zipW_vals r t)
      unfold putAt
      by_cases hk : x.1 = k
      · rw [if_pos hk, if_pos hk]; exact r
      · rw [if_neg hk, if_neg hk]; exact r1
theorem stored_put {xs : List (NestedKey × Addr × Value)} {vs : List V} {k : NestedKey} {q : Addr} {v : V} {u : Value} (rv : Vals vs (xs.map fun x => x.2.2)) (r : RelV v u) :
    (storedH xs k q u).map (fun x => (x.1, x.2.1)) = putQ (xs.map fun x => (x.1, x.2.1)) k q ∧ Vals (putW (xs.map fun x => (x.1, x.2.1)) vs k v) ((storedH xs k q u).map fun x => x.2.2) ∧ (storedH xs k q u).length ≤ xs.length + 1 := by
  unfold storedH putQ putW
  rw [atKey_has]
  cases hasQ (xs.map fun x => (x.1, x.2.1)) k with
  | true =>
    rw [if_pos rfl, if_pos rfl, if_pos rfl]
    refine ⟨?_, zipW_vals r rv, by simp⟩
    rw [List.map_map]
    apply List.map_congr_left
    intro x _
    show ((putAt k u x).1, (putAt k u x).2.1) = _
    unfold putAt
    by_cases hk : x.1 = k
    · rw [if_pos hk]
    · rw [if_neg hk]
  | false =>
    rw [if_neg Bool.false_ne_true, if_neg Bool.false_ne_true, if_neg Bool.false_ne_true]
    refine ⟨by simp, ?_, by simp⟩
    rw [List.map_append]
    exact rv.append (.cons r .nil)
/-- the dict at a is written -/
theorem dn_write {h' : Heap} {a : Addr} {kqs kqs' : List (NestedKey × Addr)} {vs vs' : List V} {t' : Nat} (I : Inv X pins σ H s) (hH : H a = some (DnO X.w a kqs vs)) (hs : Heap.SameBut a s.heap h') (d : DnAt X.w a kqs' vs' h') :
    Inv X pins σ (upd H a (DnO X.w a kqs' vs')) { s with heap := h', toks := t' } := by
  have he : ∃ q, h'.get? a = some q := by
    obtain ⟨_, _, _, _, _, _, o, _, _, e, _⟩ := d
    exact ⟨o, e⟩
  exact d_write I (by rw [hH]; exact trivial) hs he (dnOk d)
end

section
variable {X : Cx} {pos : Pos}
/-- {} -/
def tDNewN (w : World) : TE := fun _ H Q => ∀ p, H p = none → Q (.ref p) (upd H p (DnO w p [] []))
theorem pe_dnewN : PE X (.Dict [] [] pos) (tDNewN X.w) := ⟨fun pins s σ H Q I h => by
  refine wpAny_Dict_empty ⟨.ref s.heap.objs.size, _, I.laid (a := s.heap.objs.size) (o := DnO X.w s.heap.objs.size [] []) (t' := s.toks) (fun _ _ q => Heap.get?_push_of_some _ q) (Nat.le_refl _) (dnOk ?_), rfl, h _ (I.hok.fresh (Nat.le_refl _))⟩
  exact ⟨[], rfl, .nil, Nat.zero_le _, beq_eq_false_iff_ne.mpr (Ne.symm (Nat.ne_of_lt I.big)), List.nodup_nil, _, #[], 0, Heap.get?_push_size _ rfl, ⟨rfl, rfl, rfl⟩, rfl, rfl⟩⟩
theorem dv_dN : DV X (.Dict [] [] pos) (tDNewN X.w) (vOw (dK1 (.dn [] []))) := ⟨pe_dnewN, fun N F H σ ρ P Q R q k p hp => k _ _ _ _ ρ q (.refl _) (.laid R ⟨[], [], rfl, rfl, rfl⟩ hp)⟩
/-- k in d -/
def rNIn (w : World) (K : PySem.W.Frag) (neg : Bool) : R2 := fun y x H Q => ∃ q a kqs vs k, y = .ref q ∧ x = .ref a ∧ H a = some (DnO w a kqs vs) ∧ NkV K H k (.ref q) ∧ k.depth ≤ 8 ∧ KsH K H kqs ∧ Q (.bl (if neg then !hasQ kqs k else hasQ kqs k)) H
theorem op_nIn (hu : X.A.units + 64 < cLine) : OpR X (compareOp .In) (rNIn X.w X.K false) := by
  intro pins s σ H x y v u Q I rx ry h
  obtain ⟨q, a, kqs, vs, k, rfl, rfl, hd, hk, h8, hks, hq⟩ := h
  cases rx
  cases ry
  obtain ⟨xs, e1, rv, z, lo, dd⟩ := dn_at I hd hks
  refine in_keyed (knd := nestedKind X.prog X.w) (k := k) (by show X.A.units + 1 + 8 < cLine; omega) ⟨NkV.is I hk rfl, h8⟩ lo ⟨xs, dd, rfl⟩ ?_
  rw [valueAt_pairsH, Option.isSome_map, atKey_has, ← e1]
  exact ⟨.bl _, H, I.tok _, rfl, hq⟩
theorem op_nNotIn (hu : X.A.units + 64 < cLine) : OpR X (compareOp .NotIn) (rNIn X.w X.K true) := by
  intro pins s σ H x y v u Q I rx ry h
  obtain ⟨q, a, kqs, vs, k, rfl, rfl, hd, hk, h8, hks, hq⟩ := h
  cases rx
  cases ry
  obtain ⟨xs, e1, rv, z, lo, dd⟩ := dn_at I hd hks
  refine notIn_keyed (knd := nestedKind X.prog X.w) (k := k) (by show X.A.units + 1 + 8 < cLine; omega) ⟨NkV.is I hk rfl, h8⟩ lo ⟨xs, dd, rfl⟩ ?_
  rw [valueAt_pairsH, Option.isSome_map, atKey_has, ← e1]
  exact ⟨.bl _, H, I.tok _, rfl, hq⟩
/-- d[k] = v -/
def rSetN (w : World) (K : PySem.W.Frag) : TSet := fun o i v H Q => ∃ a q kqs vs k, o = .ref a ∧ i = .ref q ∧ H a = some (DnO w a kqs vs) ∧ NkV K H k (.ref q) ∧ k.depth ≤ 8 ∧ KsH K H kqs ∧ kqs.length < sizeLine ∧ Q (upd H a (DnO w a (putQ kqs k q) (putW kqs vs k v)))
theorem set_dictN (hu : X.A.units + 64 < cLine) : PSet X (rSetN X.w X.K) := by
  intro pins s σ H o i v ov iv u Q I ro ri rv h
  obtain ⟨a, q, kqs, vs, k, rfl, rfl, hd, hk, h8, hks, hz, hq⟩ := h
  cases ro
  cases ri
  obtain ⟨xs, e1, rx, z, lo, dd⟩ := dn_at I hd hks
  refine wpAny_setItem_heap (knd := nestedKind X.prog X.w) (k := k) (hsz := z) (by show X.A.units + 1 + 8 < cLine; omega) ⟨NkV.is I hk rfl, h8⟩ dd fun h' dd' hs => ?_
  obtain ⟨p1, p2, p3⟩ := stored_put (k := k) (q := q) rx rv
  refine ⟨_, dn_write I hd hs ?_, hq⟩
  rw [e1, ← p1]
  refine dn_of dd' p2 (Nat.le_trans p3 ?_) lo
  rw [e1, List.length_map] at hz
  exact hz
end

/-! over data -/
section
variable {K : KW} {N : En} {F H : Hp} {σ : L2.St} {ρ : Rho}
mutual
theorem nk_of (s : Sub F H) : ∀ {d : D} {v : V} {k : NestedKey}, Rep K F d v → toNK d = some k → NkV K.K H k v
  | .non, _, _, r, e => by cases e; exact r
  | .int i, _, _, r, e => by cases e; exact r
  | .str x, _, _, r, e => by cases e; exact r
  | .tup xs, _, _, ⟨a, vs, e1, hq, hl, r⟩, e => by
    obtain ⟨ks, h1, h2⟩ := Option.map_eq_some_iff.mp (show (toNKs xs).map NestedKey.tup = _ from e)
    subst h2
    exact ⟨a, vs, e1, s.sqT hq, nks_of s r h1⟩
  | .bl _, _, _, _, e => by cases e
  | .rf _, _, _, _, e => by cases e
  | .lst _, _, _, _, e => by cases e
  | .dk _ _, _, _, _, e => by cases e
  | .dn _ _, _, _, _, e => by cases e
  | .ins _ _ _, _, _, _, e => by cases e
  | .ab _, _, _, _, e => by cases e
theorem nks_of (s : Sub F H) : ∀ {ds : List D} {vs : List V} {ks : List NestedKey}, Reps K F ds vs → toNKs ds = some ks → NkVs K.K H ks vs
  | [], _, _, r, e => by cases (show some [] = _ from e); exact r
  | d :: ds, _, _, ⟨v, r, e1, h1, h2⟩, e => by
    obtain ⟨k, hk, e⟩ := Option.bind_eq_some_iff.mp (show (toNK d).bind _ = _ from e)
    obtain ⟨ks, hks, e⟩ := Option.map_eq_some_iff.mp e
    subst e
    exact ⟨v, r, e1, nk_of s h1 hk, nks_of s h2 hks⟩
end
theorem ksH_of (s : Sub F H) : ∀ {ds : List D} {kqs : List (NestedKey × Addr)}, RepKs K F ds kqs → KsH K.K H kqs
  | [], _, h => by cases (show _ = [] from h); exact fun p hp => absurd hp (by simp)
  | d :: ds, _, ⟨k, q, r, e1, hk, h8, h1, h2⟩ => by
    subst e1
    intro p hp
    rcases List.mem_cons.mp hp with z | z
    · subst z; exact ⟨nk_of s h1 hk, h8⟩
    · exact ksH_of s h2 p z
def hasN (ks : List D) (k : NestedKey) : Bool := ks.any fun d => match toNK d with
  | some j => decide (j = k)
  | none => false
theorem hasN_q {k : NestedKey} : ∀ {ds : List D} {kqs : List (NestedKey × Addr)}, RepKs K F ds kqs → hasQ kqs k = hasN ds k
  | [], _, h => by cases (show _ = [] from h); rfl
  | d :: ds, _, ⟨j, q, r, e1, hk, _, _, h2⟩ => by
    have ih := hasN_q (k := k) h2
    unfold hasQ hasN at ih ⊢
    rw [e1, List.any_cons, List.any_cons, ih, hk]
/-- a key of tuples, not a number -/
def isTupD : D → Bool
  | .tup _ => true
  | _ => false
def rdNIn (neg : Bool) : D → D → (D → Prop) → Prop := fun x y P => match y with
  | .dn ks _ => isTupD x = true ∧ ∃ k, toNK x = some k ∧ k.depth ≤ 8 ∧ P (.bl (if neg then !hasN ks k else hasN ks k))
  | _ => False
theorem opd_tup (R : RelS K N F H σ ρ) {x : D} {v : V} (h : isTupD x = true) (o : Opd K F σ ρ x v) : Rep K F x v := by
  rcases o with o | ⟨i, h1, h2⟩
  · exact o
  · obtain ⟨own, _, w⟩ := R.sl
    rcases h2 with h2 | ⟨_, h2⟩
    · obtain ⟨o', e', a, u, _, _, _, sh⟩ := w i _ h2
      cases x with
      | tup xs => exact sh.elim
      | _ => cases h
    · obtain ⟨o', e', _, a, u, _, _, _, sh⟩ := w i _ h2
      cases x with
      | tup xs => exact sh.elim
      | _ => cases h
theorem rep_tup_ref {x : D} {v : V} (h : isTupD x = true) (r : Rep K F x v) : ∃ q, v = .ref q := by
  cases x with
  | tup xs => obtain ⟨a, vs, e, _⟩ := r; exact ⟨a, e⟩
  | _ => cases h
theorem lr_nIn (neg : Bool) : LR K (rNIn K.w K.K neg) (rdNIn neg) := by
  intro N F H σ ρ x y v u P Q R hx hy h k
  have hb := R.opd hy
  unfold rdNIn at h
  split at h
  · obtain ⟨ht, kk, hk, h8, hp⟩ := h
    obtain ⟨a, kqs, us, e, hq, rk, r⟩ := hb
    have rx := opd_tup R ht hx
    obtain ⟨q, ev⟩ := rep_tup_ref ht rx
    subst ev
    refine ⟨q, a, kqs, us, kk, rfl, e, hq, nk_of R.sub rx hk, h8, ksH_of R.sub rk, ?_⟩
    rw [hasN_q rk]
    exact k _ _ F H hp (.refl R.sub) rfl
  · exact h.elim
def dputN (ks : List D) (k : NestedKey) (y : D) : List D := if hasN ks k then ks else ks ++ [y]
def dputM {α : Type} (ks : List D) (xs : List α) (k : NestedKey) (z : α) : List α := if hasN ks k then List.zipWith (fun d x => if toNK d = some k then z else x) ks xs else xs ++ [z]
theorem repKs_put {ds : List D} {kqs : List (NestedKey × Addr)} {k : NestedKey} {q : Addr} {y : D} (r : RepKs K F ds kqs) (hk : toNK y = some k) (h8 : k.depth ≤ 8) (ry : Rep K F y (.ref q)) : RepKs K F (dputN ds k y) (putQ kqs k q) := by
  unfold dputN putQ
  rw [hasN_q r]
  cases hasN ds k with
  | true => rw [if_pos rfl, if_pos rfl]; exact r
  | false =>
    rw [if_neg Bool.false_ne_true, if_neg Bool.false_ne_true]
    induction ds generalizing kqs with
    | nil => cases (show kqs = [] from r); exact ⟨k, q, [], rfl, hk, h8, ry, rfl⟩
    | cons d ds ih =>
      obtain ⟨j, p, t, e1, h0, h9, h1, h2⟩ := r
      subst e1
      exact ⟨j, p, t ++ [(k, q)], rfl, h0, h9, h1, ih h2⟩
theorem reps_zipN {k : NestedKey} {y : D} {u : V} (ry : Rep K F y u) : ∀ {ks : List D} {kqs : List (NestedKey × Addr)} {xs : List D} {vs : List V}, RepKs K F ks kqs → Reps K F xs vs → Reps K F (List.zipWith (fun d x => if toNK d = some k then y else x) ks xs) (List.zipWith (fun (p : NestedKey × Addr) x => if p.1 = k then u else x) kqs vs)
  | [], _, _, _, h, _ => by cases (show _ = [] from h); simp; exact Reps.nil
  | _ :: _, _, [], vs, ⟨_, _, _, e, _⟩, r => by cases (show vs = [] from r); subst e; simp; exact Reps.nil
  | d :: ks, _, x :: xs, vs, ⟨j, q, t, e1, hj, _, _, h2⟩, ⟨v, r, e, g1, g2⟩ => by
    subst e e1
    rw [List.zipWith_cons_cons, List.zipWith_cons_cons]
    refine .cons ?_ (reps_zipN ry h2 g2)
    rw [hj]
    by_cases hk : j = k
    · rw [if_pos (by rw [hk]), if_pos hk]; exact ry
    · rw [if_neg (fun z => hk (Option.some.inj z)), if_neg hk]; exact g1
theorem reps_putN {ds : List D} {kqs : List (NestedKey × Addr)} {k : NestedKey} {xs : List D} {vs : List V} {y : D} {u : V} (rk : RepKs K F ds kqs) (r : Reps K F xs vs) (ry : Rep K F y u) : Reps K F (dputM ds xs k y) (putW kqs vs k u) := by
  unfold dputM putW
  rw [hasN_q rk]
  cases hasN ds k with
  | true => rw [if_pos rfl, if_pos rfl]; exact reps_zipN ry rk r
  | false => rw [if_neg Bool.false_ne_true, if_neg Bool.false_ne_true]; exact r.append (.one ry)
def sdN : D → D → D → (D → Prop) → Prop := fun x y z P => match x with
  | .dn ks xs => isTupD y = true ∧ ∃ k, toNK y = some k ∧ k.depth ≤ 8 ∧ ks.length < sizeLine ∧ P (.dn (dputN ks k y) (dputM ks xs k z))
  | _ => False
theorem ls_dictN : LSet K (rSetN K.w K.K) sdN := by
  intro F H a o x y z u w P Q sb hH sh ry rz h k
  unfold sdN at h
  split at h
  · obtain ⟨ht, kk, hk, h8, hl, hp⟩ := h
    obtain ⟨kqs, vs, rfl, rk, r⟩ := sh
    obtain ⟨q, ev⟩ := rep_tup_ref ht ry
    subst ev
    exact ⟨a, q, kqs, vs, kk, rfl, rfl, hH, nk_of sb ry hk, h8, ksH_of sb rk, by rw [← rk.length]; exact hl, k _ _ hp ⟨_, _, rfl, repKs_put rk hk h8 ry, reps_putN rk r rz⟩⟩
  · exact h.elim
end

/-! ### d.update(d2) -/
section
variable {X : Cx} {pos : Pos} {e : Expr} {es : List Expr} {t : TA} {u : DTA}
theorem mergeK_len : ∀ (more kvs : List (Key × V)), (mergeK kvs more).length ≤ kvs.length + more.length := length_mergeK
def rUpdK : V → List V → Hp → VK → Prop := fun x vs H Q => ∃ a o kvs more, x = .ref a ∧ vs = [.ref o] ∧ a ≠ o ∧ H a = some (.dK kvs) ∧ Rd H o (.dK more) ∧ kvs.length + more.length ≤ sizeLine ∧ Q .non (upd H a (.dK (mergeK kvs more)))
theorem mt_updK : MtR X "dict.update" rUpdK := by
  intro pins s σ H x vs v us Q I rx rv h
  obtain ⟨a, o, kvs, more, rfl, rfl, hne, hH, hR, hz, q⟩ := h
  cases rx
  obtain rfl := rv.ref1
  obtain ⟨z, lo, ks, rel, dd⟩ := dk_of I.hok hH
  obtain ⟨z2, lo2, ms, rel2, dd2⟩ := dk_rd I.hok hR
  have hz2 : ks.length + ms.length ≤ sizeLine := by
    have h1 : kvs.length = ks.length := rel.length
    have h2 : more.length = ms.length := rel2.length
    rw [← h1, ← h2]; exact hz
  refine call_meetsIn PySem.F.slot_dict_update dd.typeIs PySem.F.entry_dict_update (PySem.F.args_dict_update_2 _ _) (meets_dict_update (mixKind X.prog X.w) a o hne lo2) ⟨ks, ms, dd, dd2, hz2, fun h' dd' _ hs => ?_⟩
  have he : ∃ q, h'.get? a = some q := let ⟨q, _, _, hq, _⟩ := dd'; ⟨q, hq⟩
  exact ⟨.non, _, d_write (t' := s.toks) I (by rw [hH]; exact trivial) hs he (dk_new (Nat.le_trans (length_mergeK _ _) hz) lo (rel2.merge rel) dd'), rfl, q⟩
/-- the receiver's type, whatever its keys -/
def IsDct (w : World) (K : PySem.W.Frag) (x : V) (H : Hp) : Prop := ∃ a, x = .ref a ∧ ((∃ kvs, Rd H a (.dK kvs)) ∨ ∃ kqs vs, H a = some (DnO w a kqs vs))
theorem IsDct.is {pins : List (Addr × Obj)} {σ : L2.St} {H : Hp} {s : Shared} {x : V} {v : Value} (I : Inv X pins σ H s) (r : RelV x v) (h : IsDct X.w X.K x H) : s.TypeIs v "dict" ∧ ∀ a, v = .ref a → ∃ ob, s.heap.get? a = some ob ∧ ob.dict = none := by
  obtain ⟨a, rfl, h⟩ := h
  cases r
  have z : ∃ o, s.heap.get? a = some o ∧ o.ExactDict := by
    rcases h with ⟨kvs, h⟩ | ⟨kqs, vs, h⟩
    · obtain ⟨_, _, _, _, o, _, _, e, ex, _⟩ := dk_rd I.hok h
      exact ⟨o, e, ex⟩
    · obtain ⟨⟨_, _, _, _, _, _, o, _, _, e, ex, _⟩, _⟩ := (show ObjOk X.prog X.w H s.heap a (DnO X.w a kqs vs) from I.hok a _ h)
      exact ⟨o, e, ex⟩
  obtain ⟨o, e, ex⟩ := z
  refine ⟨⟨o, e, ex.1⟩, fun b q => ?_⟩
  cases q
  exact ⟨o, e, ex.2.1⟩
def tDM (w : World) (K : PySem.W.Frag) (r : V → List V → Hp → VK → Prop) (to : TE) (t : TA) : TE := fun σ H Q => to σ H fun x H1 => IsDct w K x H1 ∧ t σ H1 fun xs H2 => r x xs H2 Q
theorem pe_dm {o : Expr} {to : TE} {name : Str} {id : String} {apos : Pos} {r : V → List V → Hp → VK → Prop} (slot : Slot "dict" name id) (hty : typeOf (.builtin id) = pure (.type "method_descriptor")) (hm : MtR X id r) (ho : PE X o to) (ha : PA X (e :: es) t)
    (hbase : attributeBase o name X.env (eval o X.env) = eval o X.env := by rfl)
    (hfew : ((backTo pos (starEach (e :: es) X.env)).all (fun x => !x.1) && (backToKw pos (keywordEach [] X.env)).all (fun x => x.1.isSome)
      && decide ((e :: es).length + ([] : List Keyword).length + (if ([] : List Keyword).isEmpty then 0 else 1) < 30)) = true := by rfl)
    (hline : (apos.endLine == pos.line) = true := by rfl) (hs : starEach (e :: es) X.env = (false, eval e X.env) :: starEach es X.env := by rfl) (hplain : (backTo pos (starEach es X.env)).any (·.1) = false := by rfl) :
    PE X (.Call (.Attribute o name apos) (e :: es) [] pos) (tDM X.w X.K r to t) := ⟨fun pins s σ H Q I h =>
  wpAny_Call_method_late hbase hfew hline rfl (thn (ho.run pins s σ H _ I h) fun v s1 ⟨x, H1, I1, r1, ty, q1⟩ => by
    obtain ⟨h1, h2⟩ := ty.is I1 r1
    refine ⟨"dict", id, PySem.F.plainAttrs_dict, slot, hty, h1, h2, ?_⟩
    have hA := ha.run pos pins s1 σ H1 _ I1 q1
    rw [hs] at hA ⊢
    exact Calls.callWith_builtin (by show (false || (backTo pos (starEach es X.env)).any (·.1)) = false; rw [hplain]; rfl) (Calls.evalArgs_plain (thn hA fun us s2 ⟨vs, H2, I2, r2, q2⟩ => hm pins s2 σ H2 x vs v us Q I2 r1 r2 q2)))⟩
def dDm (i : Nat) (sd : MD) (u : DTA) : DTE := fun ρ P => (match ρ[i]? with
  | some (.ow (.dk _ _)) => True
  | some (.ow (.dn _ _)) => True
  | _ => False) ∧ u ρ fun ys ρ1 => ∃ x, ρ1[i]? = some (.ow x) ∧ sd x ys fun z x' => P z (ρ1.set i (.ow x'))
theorem de_dm {name : Str} {id : String} {r : V → List V → Hp → VK → Prop} {sd : MD} {x : Str} {p apos : Pos} (i : Nat) (slot : Slot "dict" name id) (hty : typeOf (.builtin id) = pure (.type "method_descriptor")) (hm : MtR X id r) (l : LMt X.kw r sd) (ha : DA X (e :: es) t u)
    (hN : X.N[i]? = some x := by rfl) (hv : Vis X.env.scope x := by first | exact Or.inl rfl | exact Or.inr (Or.inl rfl) | exact Or.inr (Or.inr rfl)) (hd : (x == ("__debug__" : Str)) = false := by decide)
    (hcd : (x == ("__classdict__" : Str)) = false := by decide)
    (hbase : attributeBase (.Name x p) name X.env (eval (.Name x p) X.env) = eval (.Name x p) X.env := by rfl)
    (hfew : ((backTo pos (starEach (e :: es) X.env)).all (fun x => !x.1) && (backToKw pos (keywordEach [] X.env)).all (fun x => x.1.isSome)
      && decide ((e :: es).length + ([] : List Keyword).length + (if ([] : List Keyword).isEmpty then 0 else 1) < 30)) = true := by rfl)
    (hline : (apos.endLine == pos.line) = true := by rfl) (hs : starEach (e :: es) X.env = (false, eval e X.env) :: starEach es X.env := by rfl) (hplain : (backTo pos (starEach es X.env)).any (·.1) = false := by rfl) :
    DE X (.Call (.Attribute (.Name x p) name apos) (e :: es) [] pos) (tDM X.w X.K r (tVar i) t) (dDm i sd u) := ⟨pe_dm slot hty hm (pe_var hN hv hd hcd) ha.pa hbase hfew hline hs hplain, fun N F H σ ρ P Q R q k => by
  obtain ⟨hx, q⟩ := q
  obtain ⟨a, ea, ty⟩ : ∃ a, σ[i]? = some (some (.ref a)) ∧ IsDct X.w X.K (.ref a) H := by
    split at hx
    · rename_i ks xs h0
      obtain ⟨a, o, ea, hH, ⟨vs, eo, _, _⟩, _⟩ := R.owAt h0
      exact ⟨a, ea, a, rfl, .inl ⟨_, .inl (by rw [hH, eo])⟩⟩
    · rename_i ks xs h0
      obtain ⟨a, o, ea, hH, ⟨kqs, vs, eo, _, _⟩, _⟩ := R.owAt h0
      exact ⟨a, ea, a, rfl, .inr ⟨_, _, by rw [hH, eo]⟩⟩
    · exact hx.elim
  refine ⟨_, ea, ty, ?_⟩
  refine ha.la N F H σ ρ _ _ R q fun ys us F1 H1 ρ1 q1 s1 R1 r1 => ?_
  obtain ⟨x, hx1, q1⟩ := q1
  obtain ⟨a1, o1, ea1, hH1, sh, hF1, fin⟩ := R1.owAt hx1
  rw [ea] at ea1
  cases ea1
  exact l F1 H1 a o1 x ys us _ Q R1.sub hF1 hH1 sh r1 q1 fun z w x' o' p rz sh' => k z w F1 _ _ p s1 (fin x' o' sh') rz⟩
/-- the keys and values of two dicts -/
def dmergeX {κ : Type} [DecidableEq κ] (ks : List κ) (xs : List D) : List κ → List D → List κ × List D
  | k :: ms, y :: ys => dmergeX (dputK ks k) (dputX ks xs k y) ms ys
  | _, _ => (ks, xs)
theorem merge_rep {K : KW} {F : Hp} : ∀ {ms : List Key} {ys : List D} {us : List V} {ks : List Key} {xs : List D} {vs : List V}, ks.length = vs.length → Reps K F xs vs → ms.length = us.length → Reps K F ys us →
    ∃ ws, mergeK (ks.zip vs) (ms.zip us) = (dmergeX ks xs ms ys).1.zip ws ∧ (dmergeX ks xs ms ys).1.length = ws.length ∧ Reps K F (dmergeX ks xs ms ys).2 ws
  | [], ys, us, ks, xs, vs, h1, r, h2, r2 => ⟨vs, by cases us <;> rfl, by cases ys <;> exact h1, by cases ys <;> exact r⟩
  | m :: ms, [], us, ks, xs, vs, h1, r, h2, r2 => by cases (show us = [] from r2); simp at h2
  | m :: ms, y :: ys, us, ks, xs, vs, h1, r, h2, ⟨w, t, e, g1, g2⟩ => by
    subst e
    obtain ⟨ws, e1, e2, e3⟩ := merge_rep (ms := ms) (ys := ys) (us := t) (dput_len (k := m) (u := w) h1) (r.dput (k := m) g1) (by simpa using h2) g2
    refine ⟨ws, ?_, e2, e3⟩
    rw [← putK_zip h1] at e1
    exact e1
def mdUpdK : MD := fun x ys P => match x, ys with
  | .dk ks xs, [.dk ms zs] => ks.length + ms.length ≤ sizeLine ∧ P .non (.dk (dmergeX ks xs ms zs).1 (dmergeX ks xs ms zs).2)
  | _, _ => False
theorem lm_updK {K : KW} : LMt K rUpdK mdUpdK := by
  intro F H a o x ys us P Q sb hF hH sh ry h k
  unfold mdUpdK at h
  split at h
  · obtain ⟨hl, hp⟩ := h
    obtain ⟨vs, rfl, hz, r⟩ := sh
    obtain ⟨v, w, e, h1, h2⟩ := ry
    cases (show w = [] from h2)
    obtain ⟨b, us', e2, hq, hl2, r2⟩ := h1
    subst e2
    have hne : a ≠ b := fun z => by
      rw [← z] at hq
      rcases hq with hq | ⟨_, hq⟩ <;> rw [hF] at hq <;> cases hq
    obtain ⟨ws, e3, e4, r3⟩ := merge_rep hz r hl2 r2
    refine ⟨a, b, _, _, rfl, e, hne, hH, sb.rdK hq, by rw [zip_len hz, zip_len hl2]; exact hl, ?_⟩
    rw [e3]
    exact k _ _ _ _ hp rfl ⟨ws, rfl, e4, r3⟩
  · exact h.elim
end
end Dc

namespace Dc
open PySem PySem.Spec
open PyProof.Rows L2
variable [TabsT]

/-! ### d.update(d2), keys tuples -/
def mergeQ : List (NestedKey × Addr) → List (NestedKey × Addr) → List (NestedKey × Addr)
  | kqs, p :: ps => mergeQ (putQ kqs p.1 p.2) ps
  | kqs, [] => kqs
def mergeW : List (NestedKey × Addr) → List V → List (NestedKey × Addr) → List V → List V
  | kqs, vs, p :: ps, u :: us => mergeW (putQ kqs p.1 p.2) (putW kqs vs p.1 u) ps us
  | _, vs, _, _ => vs
theorem storedAll_merge : ∀ {ps : List (NestedKey × Addr × Value)} {us : List V} {xs : List (NestedKey × Addr × Value)} {vs : List V}, Vals us (ps.map fun x => x.2.2) → Vals vs (xs.map fun x => x.2.2) →
    (storedAllH xs ps).map (fun x => (x.1, x.2.1)) = mergeQ (xs.map fun x => (x.1, x.2.1)) (ps.map fun x => (x.1, x.2.1)) ∧ Vals (mergeW (xs.map fun x => (x.1, x.2.1)) vs (ps.map fun x => (x.1, x.2.1)) us) ((storedAllH xs ps).map fun x => x.2.2) ∧ (storedAllH xs ps).length ≤ xs.length + ps.length
  | [], us, xs, vs, r, rv => by cases r; exact ⟨rfl, rv, Nat.le_refl _⟩
  | p :: ps, us, xs, vs, r, rv => by
    cases r with
    | @cons u _ us _ r t =>
      obtain ⟨q1, q2, q3⟩ := stored_put (k := p.1) (q := p.2.1) rv r
      obtain ⟨g1, g2, g3⟩ := storedAll_merge (xs := storedH xs p.1 p.2.1 p.2.2) t q2
      refine ⟨?_, ?_, ?_⟩
      · rw [q1] at g1
        exact g1
      · rw [q1] at g2
        exact g2
      · refine Nat.le_trans g3 ?_
        have q4 : (storedH xs p.1 p.2.1 p.2.2).length ≤ xs.length + 1 := q3
        rw [List.length_cons]
        omega
section
variable {X : Cx}
def rUpdN (w : World) (K : PySem.W.Frag) : V → List V → Hp → VK → Prop := fun x vs H Q => ∃ a o kqs ws ms us, x = .ref a ∧ vs = [.ref o] ∧ a ≠ o ∧ H a = some (DnO w a kqs ws) ∧ KsH K H kqs ∧ H o = some (DnO w o ms us) ∧ KsH K H ms ∧ (kqs ≠ [] ∨ (ms.map fun p => p.1.hash w).Nodup) ∧ kqs.length + ms.length ≤ sizeLine ∧
  Q .non (upd H a (DnO w a (mergeQ kqs ms) (mergeW kqs ws ms us)))
theorem mt_updN (hu : X.A.units + 64 < cLine) : MtR X "dict.update" (rUpdN X.w X.K) := by
  intro pins s σ H x vs v us Q I rx rv h
  obtain ⟨a, o, kqs, ws, ms, us', rfl, rfl, hne, hH, hk, hO, hm, hap, hz, q⟩ := h
  cases rx
  obtain rfl := rv.ref1
  obtain ⟨xs, e1, r1, z1, lo, dd⟩ := dn_at I hH hk
  obtain ⟨ys, e2, r2, z2, lo2, dd2⟩ := dn_at I hO hm
  have hz' : xs.length + ys.length ≤ sizeLine := by rw [e1, e2, List.length_map, List.length_map] at hz; exact hz
  refine call_update_dictH (knd := nestedKind X.prog X.w) (by show X.A.units + 1 + 8 < cLine; omega) hne lo2 dd dd2 ?_ hz' fun h' dd' _ hs => ?_
  · rcases hap with e | e
    · exact .inl fun z => e (by rw [e1, z]; rfl)
    · refine .inr ⟨keyed_apart nestedKind_stays dd2, ?_⟩
      rw [e2, List.map_map] at e
      exact e
  · obtain ⟨g1, g2, g3⟩ := storedAll_merge (xs := xs) r2 r1
    refine ⟨.non, _, dn_write (t' := s.toks) I hH hs ?_, rfl, q⟩
    rw [e1, e2, ← g1]
    exact dn_of dd' g2 (Nat.le_trans g3 hz') lo
end
def nkey (d : D) : NestedKey := (toNK d).getD .none
def dmergeN (ks : List D) (xs : List D) : List D → List D → List D × List D
  | m :: ms, y :: ys => dmergeN (dputN ks (nkey m) m) (dputM ks xs (nkey m) y) ms ys
  | _, _ => (ks, xs)
section
variable {K : KW} {F H : Hp}
theorem mergeN_rep : ∀ {ms : List D} {mqs : List (NestedKey × Addr)} {ys : List D} {us : List V} {ks : List D} {kqs : List (NestedKey × Addr)} {xs : List D} {vs : List V}, RepKs K F ks kqs → Reps K F xs vs → ks.length = xs.length → RepKs K F ms mqs → Reps K F ys us → ms.length = ys.length →
    RepKs K F (dmergeN ks xs ms ys).1 (mergeQ kqs mqs) ∧ Reps K F (dmergeN ks xs ms ys).2 (mergeW kqs vs mqs us)
  | [], _, [], _, _, _, _, _, rk, r, hl, h, g, _ => by cases (show _ = [] from h); cases (show _ = [] from g); exact ⟨rk, r⟩
  | [], _, _ :: _, _, _, _, _, _, _, _, _, _, _, e => by simp at e
  | _ :: _, _, [], _, _, _, _, _, _, _, _, _, _, e => by simp at e
  | m :: ms, _, y :: ys, _, ks, kqs, xs, vs, rk, r, hl, ⟨k, q, t, e1, hk, h8, h1, h2⟩, ⟨v, w, e2, g1, g2⟩, e => by
    subst e1 e2
    have en : nkey m = k := by unfold nkey; rw [hk]; rfl
    have a := repKs_put (k := k) rk hk h8 h1
    have b := reps_putN (k := k) rk r g1
    have hl2 : (dputN ks k m).length = (dputM ks xs k y).length := by
      unfold dputN dputM
      cases hasN ks k <;> simp [hl]
    have := mergeN_rep a b hl2 h2 g2 (by simpa using e)
    unfold dmergeN
    rw [en]
    exact this
def mdUpdN : MD := fun x ys P => match x, ys with
  | .dn ks xs, [.dn ms zs] => ks.length = xs.length ∧ ms.length = zs.length ∧ ks.length + ms.length ≤ sizeLine ∧ (ks ≠ [] ∨ ∀ w, (ms.map fun m => (nkey m).hash w).Nodup) ∧ P .non (.dn (dmergeN ks xs ms zs).1 (dmergeN ks xs ms zs).2)
  | _, _ => False
theorem repKs_nkey : ∀ {ds : List D} {kqs : List (NestedKey × Addr)}, RepKs K F ds kqs → kqs.map (·.1) = ds.map nkey
  | [], _, h => by cases (show _ = [] from h); rfl
  | d :: ds, _, ⟨k, q, t, e1, hk, h8, h1, h2⟩ => by
    subst e1
    rw [List.map_cons, List.map_cons, repKs_nkey h2]
    unfold nkey
    rw [hk]
    rfl
theorem lm_updN : LMt K (rUpdN K.w K.K) mdUpdN := by
  intro F H a o x ys us P Q sb hF hH sh ry h k
  unfold mdUpdN at h
  split at h
  · obtain ⟨l1, l2, hl, hap, hp⟩ := h
    obtain ⟨kqs, vs, rfl, rk, r⟩ := sh
    obtain ⟨v, w, e, h1, h2⟩ := ry
    cases (show w = [] from h2)
    obtain ⟨b, mqs, us', e2, hq, rm, r2⟩ := h1
    subst e2
    have hne : a ≠ b := fun z => by rw [← z, hF] at hq; cases hq
    obtain ⟨m1, m2⟩ := mergeN_rep rk r l1 rm r2 l2
    refine ⟨a, b, kqs, vs, mqs, us', rfl, e, hne, hH, ksH_of sb rk, sb.ext hq, ksH_of sb rm, ?_, by rw [← rk.length, ← rm.length]; exact hl, k _ _ _ _ hp rfl ⟨_, _, rfl, m1, m2⟩⟩
    rcases hap with e3 | e3
    · refine .inl fun z => e3 ?_
      have := rk.length
      rw [z] at this
      exact List.length_eq_zero_iff.mp this
    · have := e3 K.w
      have e5 := congrArg (List.map fun k => NestedKey.hash K.w k) (repKs_nkey rm)
      rw [List.map_map, List.map_map] at e5
      exact .inr (by rw [show (mqs.map fun p => NestedKey.hash K.w p.1) = _ from e5]; exact this)
  · exact h.elim
end
end Dc

namespace Dc
open PySem PySem.Spec
open PyProof.Rows L2
variable [TabsT]

/-! ### dict comprehensions, keys tuples -/
theorem dn_empty {P : Program} {w : World} {H : Hp} (h : Heap) (hb : sysModules < h.objs.size) : ObjOk P w H (h.push { cls := .type "dict", data := .dict #[] }) h.objs.size (DnO w h.objs.size [] []) :=
  dnOk ⟨[], rfl, .nil, Nat.zero_le _, beq_eq_false_iff_ne.mpr (Ne.symm (Nat.ne_of_lt hb)), List.nodup_nil, _, #[], 0, Heap.get?_push_size _ rfl, ⟨rfl, rfl, rfl⟩, rfl, rfl⟩
theorem d_dictSetN {X : Cx} {pins : List (Addr × Obj)} {σ : L2.St} {H : Hp} {s : Shared} {E : Value → Shared → Prop} {D : Addr} {q : Addr} {kqs : List (NestedKey × Addr)} {ws : List V} {k : NestedKey} {v : V} {u r : Value} {Q : Unit → Shared → Prop} (hu : X.A.units + 64 < cLine)
    (I : Inv X pins σ H s) (hD : H D = some (DnO X.w D kqs ws)) (hk : NkV X.K H k (.ref q)) (h8 : k.depth ≤ 8) (hks : KsH X.K H kqs) (hz : kqs.length < sizeLine)
    (ry : RelV (.ref q) u) (rv : RelV v r) (h : ∀ s', Inv X pins σ (upd H D (DnO X.w D (putQ kqs k q) (putW kqs ws k v))) s' → Q () s') : wpAny (model X.prog X.w) X.A (dictSet D u r) Q E s := by
  cases ry
  obtain ⟨xs, e1, rx, z, lo, dd⟩ := dn_at I hD hks
  refine wpAny_dictSet_heap (knd := nestedKind X.prog X.w) (k := k) (hsz := z) (by show X.A.units + 8 < cLine; omega) ⟨NkV.is I hk rfl, h8⟩ dd fun h' dd' hs => ?_
  obtain ⟨p1, p2, p3⟩ := stored_put (k := k) (q := q) rx rv
  refine h _ (dn_write I hD hs ?_)
  rw [e1, ← p1]
  refine dn_of dd' p2 (Nat.le_trans p3 ?_) lo
  rw [e1, List.length_map] at hz
  exact hz
section
variable {X : Cx}
def tDcN (w : World) (K : PySem.W.Frag) (wi : TI) (g : TG) (tt : TT) (tk tv : TE) (vs : List Nat) : TE := fun σ H Q => wi σ H fun J H1 => ∀ D, H1 D = none → ∃ W : Nat → Nat → Hp → Prop, (∃ m, W 0 m (upd H1 D (DnO w D [] []))) ∧ ∀ i m H, W i m H →
  (J.stop i H ∧ Q (.ref D) H) ∨ (J.go i H ∧ ∃ Nx : Hp → Prop, (∀ H', Nx H' → ∃ m', m' < m ∧ W (i + 1) m' H') ∧ ∀ x H', J.yld i H x H' → g x (wipe σ vs) H' fun σ2 H2 => wipe σ2 vs = wipe σ vs ∧ tt σ2 H2 fun b H3 =>
    if b = true then tk σ2 H3 fun y H4 => tv σ2 H4 fun z H5 => ∃ q kqs ws k, y = .ref q ∧ H5 D = some (DnO w D kqs ws) ∧ NkV K H5 k (.ref q) ∧ k.depth ≤ 8 ∧ KsH K H5 kqs ∧ kqs.length < sizeLine ∧ Nx (upd H5 D (DnO w D (putQ kqs k q) (putW kqs ws k z))) else Nx H3)
theorem dn_core {pz : List (Addr × Obj)} {s : Shared} {σ : L2.St} {H : Hp} {Q : VK} {kx vx tg iter : Expr} {ifs : List Expr} {scope : Scope} {own : List (Str × Nat)} {pos pos' : Pos} {wi : TI} {g : TG} {tt : TT} {tk tv : TE} {use : Option (Value → Sem Unit)} {Qf : Value → Shared → Prop}
    (hroom : X.A.units + 64 < cLine) (hc : X.calm = true) (hN : X.N.Nodup) (I : Inv X pz σ H s) (hi : PI X tg iter wi) (ok : BlkOk X.N X.env.scope scope own)
    (hg : ∀ (s : Shared) (H : Hp) (cA : Addr) (cl : List (Str × Addr)) (fq : List Addr), PG (X.blk s H scope (compEnvC scope cl cA X.env) fq) tg g) (ht : ∀ (s : Shared) (H : Hp) (cA : Addr) (cl : List (Str × Addr)) (fq : List Addr), PTs (X.blk s H scope (compEnvC scope cl cA X.env) fq) ifs tt)
    (hk : ∀ (s : Shared) (H : Hp) (cA : Addr) (cl : List (Str × Addr)) (fq : List Addr), PE (X.blk s H scope (compEnvC scope cl cA X.env) fq) kx tk)
    (he : ∀ (s : Shared) (H : Hp) (cA : Addr) (cl : List (Str × Addr)) (fq : List Addr), PE (X.blk s H scope (compEnvC scope cl cA X.env) fq) vx tv) (hs : ∀ x, foldedSetIterable iter X.env x = pure x)
    (h : tDcN X.w X.K wi g tt tk tv (own.map (·.2)) σ H Q)
    (hRR : ∀ dA cA s' m hX, Inv X pz σ hX s' → Q (.ref dA) hX → s'.heap.Ns cA m → FpOk X pz hX cA → compPost (model X.prog X.w) X.A X.xe use Qf (.ref dA) cA (.ok .next) s') :
    wpAny (model X.prog X.w) X.A (comprehension (.DictComp kx vx [⟨tg, iter, ifs, 0⟩] scope pos) scope X.env pos' newDict false (eval iter X.env) use) Qf X.xe s := by
  have hfr : ∀ y ∈ scope.names, y.2 = .free → ∃ c, X.env.cells.lookup y.1 = some c := fun y hy e => by
    rcases ok.free y hy e with k | k
    · exact I.ok.has _ (.inl k)
    · exact I.ok.has _ (.inr k)
  refine wpAny_comprehension_free (use := use) rfl hs (closure_ok hfr) ok.kind (fun y hy e => by rw [ok.uniq y hy, e])
    (thn (hi.run pz s σ H _ I h) fun xv s1 hq0 => thn hq0 fun itv sB pB => ?_)
  obtain ⟨itA, fq, tm, J, hB, e, iB, T, tB, gB, q⟩ := pB
  subst e
  refine wpAny_newObj_type (newEnv_comp ?_)
  generalize hD : sB.heap.objs.size = dA
  have hDn : hB dA = none := iB.hok.fresh (Nat.le_of_eq hD)
  obtain ⟨W, ⟨m0, w0⟩, trn⟩ := q dA hDn
  -- the new list
  generalize hs3 : ({ sB with heap := sB.heap.push { cls := .type "dict", data := .dict #[] } } : Shared) = sC
  have iC : Inv X pz σ (upd hB dA (DnO X.w dA [] [])) sC := by
    rw [← hs3]
    refine iB.laid (t' := sB.toks) (fun b o e => Heap.get?_push_of_some _ e) (Nat.le_of_eq hD) ?_
    rw [← hD]
    exact dn_empty sB.heap iB.big
  have pC : sC.heap = sB.heap.push { cls := .type "dict", data := .dict #[] } := by rw [← hs3]
  have szz : ∀ b ∈ fq, b < sB.heap.objs.size := fun b hb => by
    obtain ⟨o, e, _⟩ := T.obj _ _ tB b hb
    exact Heap.lt_size e
  have gC : ∀ b ∈ fq, FpOk X pz (upd hB dA (DnO X.w dA [] [])) b ∧ b < sC.heap.objs.size := fun b hb => by
    have hltt := szz b hb
    refine ⟨⟨?_, (gB b hb).2⟩, by rw [pC, Heap.size_push]; exact Nat.lt_succ_of_lt hltt⟩
    rw [upd_ne (by rw [← hD]; exact Nat.ne_of_lt hltt)]
    exact (gB b hb).1
  have tC : tm 0 sC.heap := T.keep _ _ _ tB fun b _ o e => by rw [pC]; exact Heap.get?_push_of_some _ e
  have iD := block_start iC ok hN gC
  have pgA := hg sC (upd hB dA (DnO X.w dA [] [])) sC.heap.objs.size (cellsFrom (sC.heap.objs.size + 1) scope.names (cloFrom X.env.cells scope.names [])) fq
  have ptA := ht sC (upd hB dA (DnO X.w dA [] [])) sC.heap.objs.size (cellsFrom (sC.heap.objs.size + 1) scope.names (cloFrom X.env.cells scope.names [])) fq
  have pkA := hk sC (upd hB dA (DnO X.w dA [] [])) sC.heap.objs.size (cellsFrom (sC.heap.objs.size + 1) scope.names (cloFrom X.env.cells scope.names [])) fq
  have peA := he sC (upd hB dA (DnO X.w dA [] [])) sC.heap.objs.size (cellsFrom (sC.heap.objs.size + 1) scope.names (cloFrom X.env.cells scope.names [])) fq
  show codeAny _ _ (.compStart (.DictComp kx vx [⟨tg, iter, ifs, 0⟩] scope pos) 0 (.ref itA) (.ref dA) (compEnvC scope (cellsFrom (sC.heap.objs.size + 1) scope.names (cloFrom X.env.cells scope.names [])) sC.heap.objs.size X.env)) (compPost (model X.prog X.w) X.A X.xe use Qf (.ref dA) sC.heap.objs.size) { sC with heap := pushCells (sC.heap.push { cls := .type "dict", data := .dict #[] }) scope.names }
  have nfq : ∀ b ∈ fq, (upd hB dA (DnO X.w dA [] [])) b = none := fun b hb => (gC b hb).1.1
  generalize hce : compEnvC scope (cellsFrom (sC.heap.objs.size + 1) scope.names (cloFrom X.env.cells scope.names [])) sC.heap.objs.size X.env = cEnv at iD pgA ptA pkA peA ⊢
  have cLoc : cEnv.locals = sC.heap.objs.size := by subst hce; rfl
  generalize hH3 : upd hB dA (DnO X.w dA [] []) = hC at iC iD pgA ptA pkA peA w0 nfq gC
  generalize hs4 : ({ sC with heap := pushCells (sC.heap.push { cls := .type "dict", data := .dict #[] }) scope.names } : Shared) = sD at iD ⊢
  have tD : tm 0 sD.heap := T.keep _ _ _ tC fun b _ o e => by rw [← hs4]; exact pushCells_keeps _ _ _ _ (Heap.get?_push_of_some _ e)
  have stt : ∀ {σ' : L2.St} {hX : Hp} {s' : Shared}, Inv (X.blk sC hC scope cEnv fq) [] σ' hX s' → (∀ b ∈ fq, hX b = none) → ∀ b ∈ fq, FpOk (X.blk sC hC scope cEnv fq) [] hX b := fun {σ' hX s'} iX hn b hb =>
    ⟨hn b hb, (iX.ok.exf b hb).1, iX.ok.exfs b hb, .inl hb, fun x c e => (iX.ok.exf b hb).2 x c e, fun p hp => absurd (show p ∈ ([] : List (Addr × Obj)) ++ [] from hp) (by simp)⟩
  have lp : codeAny (model X.prog X.w) X.A (.compLoop (.DictComp kx vx [⟨tg, iter, ifs, 0⟩] scope pos) 0 (.ref itA) (.ref dA) cEnv) (compPost (model X.prog X.w) X.A X.xe use Qf (.ref dA) sC.heap.objs.size) sD := by
    refine compLoop_anyD (fun n s' => ∃ i hX, Inv (X.blk sC hC scope cEnv fq) [] (wipe σ (own.map (·.2))) hX s' ∧ tm i s'.heap ∧ (∀ b ∈ fq, hX b = none) ∧ W i n hX) ?_ m0 ⟨0, hC, iD, tD, nfq, w0⟩
    rintro n sE ⟨i, hE, iE, tE, mE, vE⟩
    rcases trn i n hE vE with ⟨stop, qq⟩ | ⟨go, Nx, hNx, step⟩
    · have tdn := T.done (X.blk sC hC scope cEnv fq) rfl rfl rfl hc i [] sE _ hE (fun _ _ => False) iE (stt iE mE) tE stop
      refine thnF tdn fun r sF ⟨hr, iF⟩ => ?_
      subst hr
      -- back in the def's context
      have iG : Inv X pz σ hE sF := iC.call' (ch := fq) iF.os iF.base iF.hok iF.bare fun b hb => ⟨(gC b hb).1.2.2.2.1, (gC b hb).1.2.1, (gC b hb).1.2.2.2.2.1, (gC b hb).1.2.2.2.2.2⟩
      have nCl : hE sC.heap.objs.size = none := by
        have z : hE cEnv.locals = none := iF.free
        rw [cLoc] at z
        exact z
      obtain ⟨m, hn, _⟩ := iF.loc
      have hn : sF.heap.Ns cEnv.locals m := hn
      rw [cLoc] at hn
      exact hRR dA sC.heap.objs.size sF m hE iG qq hn (iC.fpOk (Nat.le_refl _) nCl)
    · have titm := T.item (X.blk sC hC scope cEnv fq) rfl rfl rfl hc i [] sE _ hE (fun _ _ => False) iE (stt iE mE) tE go
      refine thnF titm fun r sF ⟨u, hr, pF⟩ => ?_
      subst hr
      refine thnF pF fun _ sG ⟨x, hG, iG, r7, yG, tG, mG⟩ => ?_
      have iG' := iG.pinned (stt iG mG) (T.obj _ _ tG)
      refine thnF (pgA.run _ sG _ hG x u _ iG' r7 (step x hG yG)) fun _ sH ⟨σH, hH, iH, hwH, qH⟩ => ?_
      refine thnF (ptA.run _ sH σH hH _ iH qH) fun b sI ⟨hI, iI, qI⟩ => ?_
      -- the turn's end
      have fn0 : ∀ {s' : Shared} {hX : Hp}, Inv (X.blk sC hC scope cEnv fq) ([] ++ pinsAt fq sG.heap) σH hX s' → Nx hX → ∃ m, m < n ∧ ∃ i hX, Inv (X.blk sC hC scope cEnv fq) [] (wipe σ (own.map (·.2))) hX s' ∧ tm i s'.heap ∧ (∀ b ∈ fq, hX b = none) ∧ W i m hX := fun {s' hX} iX nx => by
        obtain ⟨m', hm, vX⟩ := hNx hX nx
        have pnX : ∀ b ∈ fq, ∀ o, sG.heap.get? b = some o → s'.heap.get? b = some o ∧ hX b = none := fun b hb o e =>
          let z := iX.pin (b, o) (List.mem_append_right _ (List.mem_append_right _ (mem_pinsAt hb e)))
          ⟨z.1, z.2.1⟩
        have hl : (wipe σ (own.map (·.2))).length = σH.length := by rw [← hwH, wipe_length]
        refine ⟨m', hm, i + 1, hX, (iX.unpinned (pins := [])).weak hl (fun j v e => ?_), T.keep _ _ _ tG fun b hb o e => (pnX b hb o e).1, fun b hb => ?_, vX⟩
        · rw [← hwH] at e
          exact (wipe_some e).1
        · obtain ⟨o, e, _⟩ := T.obj _ _ tG b hb
          exact (pnX b hb o e).2
      cases b with
      | false =>
        simp only [Bool.false_eq_true, if_false] at qI ⊢
        exact fn0 iI qI
      | true =>
        simp only [if_true] at qI ⊢
        refine thnF (pkA.run _ sI σH hI _ iI qI) fun z sJ ⟨yk, hJ, iJ, rJ, qJ⟩ => ?_
        refine thnF (peA.run _ sJ σH hJ _ iJ qJ) fun z2 sK ⟨yv, hK, iK, rK, qk, kqs, ws, kk, ek, hD11, hnk, h8, hks, hz11, nx⟩ => ?_
        subst ek
        exact d_dictSetN (X := X.blk sC hC scope cEnv fq) hroom iK hD11 hnk h8 hks hz11 rJ rK fun sL iL => fn0 iL nx
  exact codeAny_compStart_dict lp (T.self X.A 0 _ _ _ tD lp)
theorem pe_dcN {kx vx tg iter : Expr} {ifs : List Expr} {scope : Scope} {own : List (Str × Nat)} {pos : Pos} {wi : TI} {g : TG} {tt : TT} {tk tv : TE} (hroom : X.A.units + 64 < cLine) (hc : X.calm = true) (hN : X.N.Nodup) (hi : PI X tg iter wi) (ok : BlkOk X.N X.env.scope scope own)
    (hg : Blk X scope fun Y => PG Y tg g) (ht : Blk X scope fun Y => PTs Y ifs tt) (hk : Blk X scope fun Y => PE Y kx tk) (he : Blk X scope fun Y => PE Y vx tv) (hs : ∀ x, foldedSetIterable iter X.env x = pure x := by intro _; rfl) :
    PE X (.DictComp kx vx [⟨tg, iter, ifs, 0⟩] scope pos) (tDcN X.w X.K wi g tt tk tv (own.map (·.2))) := ⟨fun pz s σ H Q I h => by
  rw [arm_eval_DictComp]
  refine dn_core hroom hc hN I hi ok hg ht hk he hs h fun dA cA s' m hX iX q hn f => ⟨m, hn, fun h'' sb => ?_⟩
  obtain ⟨g0, g1, g2, g3, g4, g5⟩ := f
  exact ⟨.ref dA, hX, iX.turned (t' := s'.toks) (fun b o hb e => (sb.2 b hb).trans e) g0 g1 g3 g4 g5, rfl, q⟩⟩
def dDcN (di : DTI) (dg : DTG) (dt : DTT) (dk de : DTE) (is : List Nat) : DTE := fun ρ P => di ρ fun xs ρ1 => OkW ρ1 is ∧ xs.length ≤ sizeLine ∧ ∃ W : Nat → List D → List D → Prop, W 0 [] [] ∧ (∀ i x ks acc, xs[i]? = some x → W i ks acc → dg x (wipeR ρ1 is) fun ρ2 => dt ρ2 fun b ρ3 => ρ3 = ρ2 ∧
  (b = true → dk ρ3 fun y ρ4 => ρ4 = ρ3 ∧ isTupD y = true ∧ de ρ4 fun z ρ5 => ρ5 = ρ4 ∧ ∃ k, toNK y = some k ∧ k.depth ≤ 8 ∧ W (i + 1) (dputN ks k y) (dputM ks acc k z)) ∧ (b = false → W (i + 1) ks acc)) ∧ ∀ ks acc, W xs.length ks acc → P (.dn ks acc) ρ1
theorem dputN_len {ks : List D} {k : NestedKey} {y : D} : (dputN ks k y).length ≤ ks.length + 1 := by
  unfold dputN
  split <;> simp
theorem dn_turns {tg : Expr} {ifs : List Expr} {g : TG} {dg : DTG} {kx vx : Expr} {tt : TT} {dt : DTT} {tk tl : TE} {dk dl : DTE} {scope : Scope} {own : List (Str × Nat)} {js : List Nat} {J : It} {xs : List D} {N : En} {F1 H1 : Hp} {σ : L2.St} {ρ1 : Rho} {P : Sl → Rho → Prop} {Q : VK}
    (hg : Blk X scope fun Y => DG Y tg g dg js) (ht : Blk X scope fun Y => DTs Y ifs tt dt) (hk : Blk X scope fun Y => DE Y kx tk dk) (he : Blk X scope fun Y => DE Y vx tl dl) (hjs : ∀ j ∈ js, j ∈ own.map (·.2)) (R1 : RelS X.kw N F1 H1 σ ρ1) (ok : ItOk X.kw N F1 J xs)
    (q1 : OkW ρ1 (own.map (·.2)) ∧ xs.length ≤ sizeLine ∧ ∃ W : Nat → List D → List D → Prop, W 0 [] [] ∧ (∀ i x ks acc, xs[i]? = some x → W i ks acc → dg x (wipeR ρ1 (own.map (·.2))) fun ρ2 => dt ρ2 fun b ρ3 => ρ3 = ρ2 ∧
      (b = true → dk ρ3 fun y ρ4 => ρ4 = ρ3 ∧ isTupD y = true ∧ dl ρ4 fun z ρ5 => ρ5 = ρ4 ∧ ∃ k, toNK y = some k ∧ k.depth ≤ 8 ∧ W (i + 1) (dputN ks k y) (dputM ks acc k z)) ∧ (b = false → W (i + 1) ks acc)) ∧ ∀ ks acc, W xs.length ks acc → P (.ow (.dn ks acc)) ρ1)
    (k : ∀ x v F' H' ρ', P x ρ' → Same F1 F' → Pend X.kw N F' H' σ ρ' x v → Q v H') :
    ∀ D, H1 D = none → ∃ W : Nat → Nat → Hp → Prop, (∃ m, W 0 m (upd H1 D (DnO X.w D [] []))) ∧ ∀ i m H, W i m H →
      (J.stop i H ∧ Q (.ref D) H) ∨ (J.go i H ∧ ∃ Nx : Hp → Prop, (∀ H', Nx H' → ∃ m', m' < m ∧ W (i + 1) m' H') ∧ ∀ x H', J.yld i H x H' → g x (wipe σ (own.map (·.2))) H' fun σ2 H2 => wipe σ2 (own.map (·.2)) = wipe σ (own.map (·.2)) ∧ tt σ2 H2 fun b H3 =>
        if b = true then tk σ2 H3 fun y H4 => tl σ2 H4 fun z H5 => ∃ q kqs ws k, y = .ref q ∧ H5 D = some (DnO X.w D kqs ws) ∧ NkV X.K H5 k (.ref q) ∧ k.depth ≤ 8 ∧ KsH X.K H5 kqs ∧ kqs.length < sizeLine ∧ Nx (upd H5 D (DnO X.w D (putQ kqs k q) (putW kqs ws k z))) else Nx H3) := by
  obtain ⟨okw, hsz, W, w0, step, fin⟩ := q1
  intro Dd hD
  have h0 := R1.fresh hD
  have hL : ∀ p ∈ N.L, p.1 ≠ Dd := fun p hp z => by
    have y := (R1.lk p hp).2
    rw [z, hD] at y; cases y
  refine ⟨fun i m H => m = xs.length - i ∧ i ≤ xs.length ∧ ∃ F ks kqs av acc, Same F1 F ∧ F Dd = none ∧ H Dd = some (DnO X.w Dd kqs av) ∧ RelS X.kw (N.plus Dd (DnO X.w Dd kqs av)) F H σ ρ1 ∧ RepKs X.kw F ks kqs ∧ Reps X.kw F acc av ∧ ks.length ≤ i ∧ W i ks acc, ⟨xs.length, by simp, Nat.zero_le _, F1, [], [], [], [], .refl _, R1.sub.free hD, upd_same, ?_, rfl, rfl, Nat.le_refl _, w0⟩, ?_⟩
  · obtain ⟨a, o, e, _, _, _, R2, sh⟩ := Pend.laid (x := .dn [] []) (o := DnO X.w Dd [] []) R1 ⟨[], [], rfl, rfl, rfl⟩ hD
    cases e
    have e3 : o = DnO X.w Dd [] [] := by
      have := R2.plus_at (fun ob u z => hL _ z rfl) sh.nt
      rw [upd_same] at this
      exact (Option.some.inj this).symm
    rw [e3] at R2
    exact R2
  · rintro i m H2 ⟨rfl, hi, F2, ks, kqs, av, acc, s2, hF2, hH2, R2, rk, ra, la, w⟩
    obtain ⟨go, stop⟩ := ok F2 H2 s2 R2.sub (fun p hp => (R2.lk p hp).2) fun a ob u e => R2.frz_at (by show upd N.H0 Dd _ a = _; rw [upd_ne (fun z => by rw [z, h0] at e; cases e)]; exact e)
    by_cases hlt : i < xs.length
    · obtain ⟨g1, g2⟩ := go i xs[i] (by simp [hlt])
      refine .inr ⟨g1, fun H' => ∃ F ks kqs av acc, Same F1 F ∧ F Dd = none ∧ H' Dd = some (DnO X.w Dd kqs av) ∧ RelS X.kw (N.plus Dd (DnO X.w Dd kqs av)) F H' σ ρ1 ∧ RepKs X.kw F ks kqs ∧ Reps X.kw F acc av ∧ ks.length ≤ i + 1 ∧ W (i + 1) ks acc, fun H' ⟨F, ks, kqs, av, acc, z⟩ => ⟨xs.length - (i + 1), by omega, rfl, hlt, F, ks, kqs, av, acc, z⟩, fun v H3 y => ?_⟩
      obtain ⟨F3, st, rv⟩ := g2 v H3 y
      have R3 := R2.step st
      have hF3 : ∀ {F' : Hp} {H' : Hp} {σ' : L2.St} {ρ' : Rho}, RelS X.kw (N.plus Dd (DnO X.w Dd kqs av)) F' H' σ' ρ' → F' Dd = none := fun {F' H' σ' ρ'} R' => by
        cases z : F' Dd with
        | none => rfl
        | some u =>
          rcases R'.new Dd u z with y | y
          · have := R2.frz0 Dd u y
            rw [hF2] at this; cases this
          · rw [show (N.plus Dd (DnO X.w Dd kqs av)).H0 Dd = some (DnO X.w Dd kqs av) from upd_same] at y; cases y
      have wl : (wipe σ (own.map (·.2))).length = σ.length := wipe_length _ _
      obtain ⟨sb, Hb, Cb, cb, fb, hz'⟩ : ∃ (s : Shared) (H : Hp) (C : Addr) (cl : List (Str × Addr)) (fp : List Addr), True := ⟨X.s_0, X.H_0, 0, [], [], trivial⟩
      refine (hg sb Hb Cb cb fb).lg _ F3 H3 _ _ _ v _ _ (R3.wiped _) rv (step i _ ks acc (by simp [hlt]) w) fun σ4 ρ4 q4 R4 l4 t4 => ?_
      have same4 : ∀ j, j ∉ own.map (·.2) → σ4[j]? = σ[j]? ∧ ρ4[j]? = ρ1[j]? := fun j hj => by
        obtain ⟨z1, z2⟩ := t4 j fun z => hj (hjs j z)
        exact ⟨z1.trans (wipe_out1 hj), z2.trans (wipeR_out hj)⟩
      refine ⟨wipe_eq (l4.trans wl) fun j hj => (same4 j hj).1, ?_⟩
      refine (ht sb Hb Cb cb fb).lt _ F3 H3 σ4 ρ4 _ _ R4 q4 fun b F5 H5 ρ5 q5 s5 R5 => ?_
      obtain ⟨e5, qt, qf⟩ := q5
      subst e5
      cases b with
      | true =>
        rw [if_pos rfl]
        refine (hk sb Hb Cb cb fb).le _ F5 H5 σ4 ρ5 _ _ R5 (qt rfl) fun y v' F6 H6 ρ6 q6 s6 R6 r6 => ?_
        obtain ⟨e6, hty, q6⟩ := q6
        subst e6
        refine (he sb Hb Cb cb fb).le _ F6 H6 σ4 ρ6 _ _ R6 q6 fun y' v'' F7 H7 ρ7 q7 s7 R7 r7 => ?_
        obtain ⟨e7, kk, hkk, h8, w7⟩ := q7
        subst e7
        obtain ⟨q, ev⟩ := rep_tup_ref hty r6
        subst ev
        have sm : Same F2 F7 := ((st.ff.trans s5).trans s6).trans s7
        have Rb : RelS X.kw (N.plus Dd (DnO X.w Dd kqs av)) F7 H7 σ ρ1 := R2.back R7 sm okw same4
        have hD6 := Rb.plus_at (fun ob u z => hL _ z rfl) dn_nt
        have rk7 := rk.mono sm
        refine ⟨q, kqs, av, kk, rfl, hD6, nk_of Rb.sub (r6.mono s7) hkk, h8, ksH_of Rb.sub rk7, by rw [← rk.length]; omega, F7, dputN ks kk y, putQ kqs kk q, putW kqs av kk v'', dputM ks acc kk y', s2.trans sm, hF3 Rb, upd_same, Rb.plus_upd (hF3 Rb) hD6 hL dn_nf dn_nt dn_nc dn_nt, repKs_put rk7 hkk h8 (r6.mono s7), reps_putN rk7 (ra.mono sm) r7, Nat.le_trans dputN_len (by omega), w7⟩
      | false =>
        rw [if_neg Bool.false_ne_true]
        have sm : Same F2 F5 := st.ff.trans s5
        have Rb : RelS X.kw (N.plus Dd (DnO X.w Dd kqs av)) F5 H5 σ ρ1 := R2.back R5 sm okw same4
        exact ⟨F5, ks, kqs, av, acc, s2.trans sm, hF3 Rb, Rb.plus_at (fun ob u z => hL _ z rfl) dn_nt, Rb, rk.mono sm, ra.mono sm, Nat.le_succ_of_le la, qf rfl⟩
    · have e : i = xs.length := by omega
      subst e
      exact .inl ⟨stop, k _ _ F2 H2 ρ1 (fin ks acc w) s2 ⟨Dd, _, rfl, h0, hF2, hH2, R2, kqs, av, rfl, rk, ra⟩⟩
theorem dv_dcN {tg iter : Expr} {ifs : List Expr} {wi : TI} {di : DTI} {g : TG} {dg : DTG} {kx vx : Expr} {scope : Scope} {own : List (Str × Nat)} {pos : Pos} {tt : TT} {dt : DTT} {tk tl : TE} {dk dl : DTE} {js : List Nat} (hroom : X.A.units + 64 < cLine) (hc : X.calm = true) (hN : X.N.Nodup) (hi : DJ X tg iter wi di) (ok : BlkOk X.N X.env.scope scope own)
    (hg : Blk X scope fun Y => DG Y tg g dg js) (ht : Blk X scope fun Y => DTs Y ifs tt dt) (hk : Blk X scope fun Y => DE Y kx tk dk) (he : Blk X scope fun Y => DE Y vx tl dl) (hjs : ∀ j ∈ js, j ∈ own.map (·.2)) (hs : ∀ x, foldedSetIterable iter X.env x = pure x := by intro _; rfl) :
    DV X (.DictComp kx vx [⟨tg, iter, ifs, 0⟩] scope pos) (tUnlE X (tDcN X.w X.K wi g tt tk tl (own.map (·.2)))) (vOw (dDcN di dg dt dk dl (own.map (·.2)))) :=
  ⟨pe_unl (pe_dcN hroom hc hN hi.pi ok (fun s H C cl fp => (hg s H C cl fp).pg) (fun s H C cl fp => (ht s H C cl fp).pt) (fun s H C cl fp => (hk s H C cl fp).pe) (fun s H C cl fp => (he s H C cl fp).pe) hs), fun N F H σ ρ P Q R q k =>
    hi.lj N F H σ ρ _ _ R q fun xs F1 H1 ρ1 J N' q1 s1 R1 lk ok => dn_turns hg ht hk he hjs R1 ok q1 fun x v F' H' ρ' p s pd => lk.pend s pd fun H'' pd' => k x v F' H'' ρ' p (s1.trans s) pd'⟩
end
end Dc

namespace Dc
open PySem PySem.Spec
open PyProof.Rows L2
variable [TabsT]

/-! ### max(d.values()) -/
section
variable {X : Cx} {o : Expr} {p pos apos mpos : Pos} {td : TE}
def tMaxVals (td : TE) : TE := fun σ H Q => td σ H fun x H1 => ∃ a kvs ns, x = V.ref a ∧ Rd H1 a (.dK kvs) ∧ kvs.map (·.2) = ns.map V.int ∧ ns ≠ [] ∧ ∀ m, m ∈ ns → (∀ j ∈ ns, j ≤ m) → Q (.int m) H1
theorem pe_maxVals (hc : X.calm = true) (hg : Gl X "max") (hm : X.mg "max" = none) (hd : PE X o td) (hbase : attributeBase o "values" X.env (eval o X.env) = eval o X.env := by rfl) (hline : (apos.endLine == mpos.line) = true := by rfl)
    (hse : starEach [Expr.Call (.Attribute o "values" apos) [] [] mpos] X.env = [(false, eval (Expr.Call (.Attribute o "values" apos) [] [] mpos) X.env)] := by rfl) :
    PE X (.Call (.Name "max" p) [.Call (.Attribute o "values" apos) [] [] mpos] [] pos) (tMaxVals td) := by
  refine ⟨fun pz s σ H Q I h => ?_⟩
  refine wpAny_Call_Name_kw (ld_blt I hg hm (u := .builtin "max") (by first | rfl | decide +kernel) ?_ (by first | decide +kernel | decide) (by first | decide +kernel | decide))
  rw [hse]
  refine PySem.callWith_builtin1 (wpAny_Call_method0_late hbase hline (thn (hd.run pz s σ H _ I h) fun v sB ⟨x, hB, iB, r1, a, kws, ns, eX, ha, hv, hne, q⟩ => ?_))
  subst eX
  obtain rfl : v = Value.ref a := r1
  obtain ⟨_, hS, ws, rl, dF⟩ := dk_rd iB.hok ha
  obtain ⟨eP, dtA⟩ := dF.dictAt
  have dtB := dtA
  obtain ⟨oB, eS, hO, eX, hdat, hko, hpr, hnd⟩ := dtB
  refine ⟨"dict", "dict.values", F.plainAttrs_dict, F.slot_dict_values, F.type_dict_values, ⟨oB, hO, eX.1⟩, fun b e => ?_, Calls.callWith_builtin rfl (PySem.evalArgs_none ?_)⟩
  · cases e
    exact ⟨oB, hO, eX.2.1⟩
  refine call_meetsIn F.slot_dict_values ⟨oB, hO, eX.1⟩ F.entry_dict_values (F.args_dict_values_1 _) (meets_dict_values (mixKind X.prog X.w) a hS) ⟨⟨ws, dF⟩, ?_⟩
  have kA : ∀ b u, sB.heap.get? b = some u → (sB.heap.push { cls := .type "dict_values", data := .fields #[.ref a] }).get? b = some u := fun b u e => Heap.get?_push_of_some _ e
  have dtC : (sB.heap.push { cls := .type "dict_values", data := .fields #[.ref a] }).DictAt (mixKind X.prog X.w) a ws eP := dtA.keep kA
  have lv : ws.length = ns.length := by
    have eA := congrArg List.length hv
    rw [List.length_map, List.length_map] at eA
    rw [← eA]
    exact (KV.length rl).symm
  have ln0 : 0 < ws.length := by
    rw [lv]
    exact List.length_pos_iff.mpr hne
  have vl : ∀ (i : Nat) (v : Value), (∃ k, ws[i]? = some (k, v)) → ∃ t, v = Value.int (ns.getD i 0) t := fun i v ⟨k, hK⟩ => by
    obtain ⟨x, h1, h2⟩ := KV.at' rl hK
    have eA : (kws.map (·.2))[i]? = some x := by rw [List.getElem?_map, h1] <;> rfl
    rw [hv, List.getElem?_map] at eA
    obtain ⟨j, hJ, eB⟩ := Option.map_eq_some_iff.mp eA
    subst eB
    obtain ⟨t, eC⟩ := h2
    refine ⟨t, ?_⟩
    rw [eC, List.getD_eq_getElem?_getD, hJ] <;> rfl
  refine call_max_walk (wpAny_pyIter_values (v := sB.heap.objs.size) (d := a) ⟨_, Heap.get?_push_size _ rfl, rfl, rfl⟩ dtC ?_)
  have lt0 : a < sB.heap.objs.size := Heap.lt_size hO
  have sz0 : (sB.heap.push { cls := .type "dict_values", data := .fields #[.ref a] }).objs.size = sB.heap.objs.size + 1 := Heap.size_push _ _
  refine ⟨_, _, _, _, _, _, _, rfl, Walks.dictValues (knd := mixKind X.prog X.w) (A := X.A.in1) (I.ok.hd hc) (sB.heap.push { cls := .type "dict_values", data := .fields #[.ref a] }).objs.size a (by rw [sz0]; exact Nat.ne_of_lt (Nat.lt_succ_of_lt lt0)) ws eP,
    ⟨⟨_, Heap.get?_push_size _ rfl, rfl, rfl⟩, dtC.keep fun b u e => Heap.get?_push_of_some _ e⟩, fun b hB2 => ?_, ln0, CmpOf.ints_gt (fun i => ns.getD i 0) vl, fun v hX tK hPP hK => ?_⟩
  · show b < ((sB.heap.push _).push _).objs.size
    rw [Heap.size_push, Heap.size_push]
    rw [sz0] at hB2
    rcases List.mem_cons.mp hB2 with e | hB2
    · rw [e]
      exact Nat.lt_succ_self _
    · have e : b = a := List.mem_singleton.mp hB2
      rw [e]
      exact Nat.lt_succ_of_lt (Nat.lt_succ_of_lt lt0)
  · obtain ⟨t, rfl⟩ := vl _ v hPP
    obtain ⟨bA, bB⟩ := argBest_gt (fun i => ns.getD i 0) (ws.length - 1)
    refine ⟨.int _, hB, iB.kept (t' := tK) fun b u e => hK b u (fun hmem => ?_) (Heap.get?_push_of_some _ (kA b u e)), ⟨t, rfl⟩, q _ ?_ fun j hJ => ?_⟩
    · have eA : b = (sB.heap.push { cls := .type "dict_values", data := .fields #[.ref a] }).objs.size := List.mem_singleton.mp hmem
      have eB := Heap.lt_size e
      rw [sz0] at eA
      rw [eA] at eB
      exact absurd eB (Nat.not_lt.mpr (Nat.le_succ _))
    · have hB2 : argBest (fun i j => decide (ns.getD i 0 > ns.getD j 0)) (ws.length - 1) < ns.length := by omega
      rw [List.getD_eq_getElem?_getD, List.getElem?_eq_getElem hB2]
      exact List.getElem_mem hB2
    · obtain ⟨i, hi, e⟩ := List.mem_iff_getElem.mp hJ
      have eB : ns.getD i 0 = j := by rw [List.getD_eq_getElem?_getD, List.getElem?_eq_getElem hi, ← e] <;> rfl
      rw [← eB]
      exact bB i (by omega)
def dMaxV (dd : DTE) : DTE := fun ρ P => dd ρ fun x ρ1 => match x with
  | .dk ks xs => ks.length = xs.length ∧ ∃ ns : List Int, xs = ns.map D.int ∧ ns ≠ [] ∧ ∀ m, m ∈ ns → (∀ j ∈ ns, j ≤ m) → P (.int m) ρ1
  | _ => False
theorem de_maxVals {dd : DTE} (hc : X.calm = true) (hg : Gl X "max") (hm : X.mg "max" = none) (h : DC X o td dd) (hbase : attributeBase o "values" X.env (eval o X.env) = eval o X.env := by rfl) (hline : (apos.endLine == mpos.line) = true := by rfl)
    (hse : starEach [Expr.Call (.Attribute o "values" apos) [] [] mpos] X.env = [(false, eval (Expr.Call (.Attribute o "values" apos) [] [] mpos) X.env)] := by rfl) :
    DE X (.Call (.Name "max" p) [.Call (.Attribute o "values" apos) [] [] mpos] [] pos) (tMaxVals td) (dMaxV dd) := ⟨pe_maxVals hc hg hm h.pe hbase hline hse, fun N F H σ ρ P Q R q k => by
  refine h.le N F H σ ρ _ _ R q fun x v F1 H1 ρ1 q1 s1 R1 r1 => ?_
  split at q1
  · obtain ⟨hl0, ns, e, hne, hp⟩ := q1
    obtain ⟨a, vs, ev, hq, hl, r⟩ := R1.opd r1
    subst e
    refine ⟨a, _, ns, ev, hq, ?_, hne, fun m hm1 hm2 => k _ _ F1 H1 ρ1 (hp m hm1 hm2) s1 R1 rfl⟩
    rw [zip_snd hl]
    exact reps_ints r
  · exact q1.elim⟩
end

/-! ### abs, int, min, max of two; list(range(n)) -/
section
variable {K : KW}
def rdAbs : List D → (D → Prop) → Prop := fun xs P => match xs with
  | [.int i] => P (.int (if i < 0 then -i else i))
  | _ => False
theorem lc_abs : LC K (fun xs H Q => ∃ i, xs = [.int i] ∧ Q (.int (if i < 0 then -i else i)) H) rdAbs := by
  intro N F H σ ρ xs vs P Q R o h k
  unfold rdAbs at h
  split at h
  · obtain ⟨v, rfl, hv⟩ := o.one
    exact ⟨_, by rw [show v = _ from R.opd hv], k _ _ F H h (.refl R.sub) rfl⟩
  · exact h.elim
def rdInt : List D → (D → Prop) → Prop := fun xs P => match xs with
  | [.int i] => P (.int i)
  | [.bl b] => P (.int (if b then 1 else 0))
  | _ => False
theorem lc_int : LC K (fun xs H Q => (∃ i, xs = [.int i] ∧ Q (.int i) H) ∨ ∃ k, xs = [.bl k] ∧ Q (.int (if k then 1 else 0)) H) rdInt := by
  intro N F H σ ρ xs vs P Q R o h k
  unfold rdInt at h
  split at h
  · obtain ⟨v, rfl, hv⟩ := o.one
    exact .inl ⟨_, by rw [show v = _ from R.opd hv], k _ _ F H h (.refl R.sub) rfl⟩
  · obtain ⟨v, rfl, hv⟩ := o.one
    exact .inr ⟨_, by rw [show v = _ from R.opd hv], k _ _ F H h (.refl R.sub) rfl⟩
  · exact h.elim
def rdMin2 : List D → (D → Prop) → Prop := fun xs P => match xs with
  | [.int i, .int j] => P (.int (if j < i then j else i))
  | _ => False
theorem lc_min2 : LC K (fun xs H Q => ∃ i j, xs = [.int i, .int j] ∧ Q (.int (if j < i then j else i)) H) rdMin2 := by
  intro N F H σ ρ xs vs P Q R o h k
  unfold rdMin2 at h
  split at h
  · obtain ⟨v, u, rfl, hv, hu⟩ := o.two
    exact ⟨_, _, by rw [show v = _ from R.opd hv, show u = _ from R.opd hu], k _ _ F H h (.refl R.sub) rfl⟩
  · exact h.elim
def rdMax2 : List D → (D → Prop) → Prop := fun xs P => match xs with
  | [.int i, .int j] => P (.int (if j > i then j else i))
  | _ => False
theorem lc_max2 : LC K (fun xs H Q => ∃ i j, xs = [.int i, .int j] ∧ Q (.int (if j > i then j else i)) H) rdMax2 := by
  intro N F H σ ρ xs vs P Q R o h k
  unfold rdMax2 at h
  split at h
  · obtain ⟨v, u, rfl, hv, hu⟩ := o.two
    exact ⟨_, _, by rw [show v = _ from R.opd hv, show u = _ from R.opd hu], k _ _ F H h (.refl R.sub) rfl⟩
  · exact h.elim
variable {X : Cx} {pos p p2 pos2 : Pos} {a e : Expr} {ta te : TE} {da de : DTE}
def dLR (da : DTE) : DTE := fun ρ P => da ρ fun x ρ1 => match x with
  | .int n => 0 ≤ n ∧ n ≤ 16777216 ∧ P (.lst (rngD 0 n.toNat)) ρ1
  | _ => False
theorem rg_reps {K : KW} {F : Hp} {n : Int} : Reps K F (rngD 0 n.toNat) (rgV 0 n) := by
  unfold rngD rgV
  rw [Int.sub_zero]
  exact Reps.map_of (fun i : Nat => D.int (0 + (i : Int))) (fun i : Nat => V.int (0 + (i : Nat))) (fun _ => rfl) _
theorem le_listRg (h : DC X a ta da) (N : En) (F H : Hp) (σ : L2.St) (ρ : Rho) (P : Sl → Rho → Prop) (Q : VK) (R : RelS X.kw N F H σ ρ) (q : vOw (dLR da) ρ P) (k : ∀ x v F' H' ρ', P x ρ' → Same F F' → Pend X.kw N F' H' σ ρ' x v → Q v H') : tLstRg (tRg1 ta) σ H Q := by
  refine h.le N F H σ ρ _ _ R q fun x v F1 H1 ρ1 q1 s1 R1 r1 => ?_
  split at q1
  · obtain ⟨h0, h1, hp⟩ := q1
    refine ⟨_, R1.opd r1, RgOk.of_le (Int.le_refl _) h1 (by decide) h0, fun q hq => k _ _ F1 _ ρ1 hp s1 (.laid R1 ⟨_, rfl, ?_, rg_reps⟩ hq)⟩
    rw [rgV_length, sizeLine_eq]
    omega
  · exact q1.elim
theorem dv_listRg (hc : X.calm = true) (hg : Gl X "list") (hm : X.mg "list" = none) (hg2 : Gl X "range") (hm2 : X.mg "range" = none) (h : DC X a ta da) (na : starEach [a] X.env = (false, eval a X.env) :: starEach [] X.env := by rfl)
    (na2 : starEach [Expr.Call (.Name "range" p2) [a] [] pos2] X.env = (false, eval (Expr.Call (.Name "range" p2) [a] [] pos2) X.env) :: starEach [] X.env := by rfl) : DV X (.Call (.Name "list" p) [.Call (.Name "range" p2) [a] [] pos2] [] pos) (tLstRg (tRg1 ta)) (vOw (dLR da)) :=
  ⟨pe_listRg hc hg hm (prg_1 hg2 hm2 h.pe na) na2, le_listRg h⟩
end

/-! ### name op= int -/
section
variable {X : Cx} {pos : Pos} {e : Expr} {te : TE} {de : DTE}
def sAugI (i : Nat) (C : Int → Int → Prop) (g : Int → Int → Int) (de : DTE) : DTS := fun D ρ => ∃ a, ρ[i]? = some (.sh (.int a)) ∧ de ρ fun y ρ1 => match y with
  | .int b => C a b ∧ D.nx (ρ1.set i (.sh (.int (g a b))))
  | _ => False
theorem ds_augI (i : Nat) {x : Str} {op : Operator} {pos' : Pos} {C : Int → Int → Prop} {g : Int → Int → Int} (hN : X.N.Nodup) (ho : OpR X (inplaceOp op) (rI C fun i j => .int (g i j))) (h : DE X e te de) (hi : X.N[i]? = some x := by rfl) (hx : Loc X.env.scope x := by first | exact Or.inl rfl | exact Or.inr rfl)
    (hf : X.fn x = true ∨ X.env.scope.names.lookup x = some .local := by first | exact .inl rfl | exact .inr rfl | assumption) : DS X (.AugAssign (.Name x pos') op e pos) (tAug i te (rI C fun i j => .int (g i j))) (sAugI i C g de) :=
  ⟨ps_aug hN hi hx h.pe (fun pins s σ H x y v u Q I rx ry q => ho pins s σ H x y v u Q I rx ry q) hf, fun N F H σ ρ D E R hl q k => by
    obtain ⟨a, ha, q⟩ := q
    obtain ⟨v, ev, rv⟩ := R.shared ha
    have hil : i < σ.length := (List.getElem?_eq_some_iff.mp ev).1
    refine ⟨v, ev, ?_⟩
    refine h.le N F H σ ρ _ _ R q fun y u F1 H1 ρ1 q1 s1 R1 r1 => ?_
    split at q1
    · obtain ⟨hC, hp⟩ := q1
      exact ⟨_, _, rv, r1, hC, k.nx F1 H1 _ _ hp s1 (RelS.store (s := .sh _) ⟨R1, rfl⟩ hil) (by simp)⟩
    · exact q1.elim⟩
theorem iop_addC : OpR X (inplaceOp .Add) (rI (fun _ _ => True) fun i j => .int (i + j)) := by
  intro pins s σ H x y v u Q I rx ry h
  obtain ⟨i, j, e1, e2, _, q⟩ := h
  exact iop_add pins s σ H x y v u Q I rx ry ⟨i, j, e1, e2, q⟩
end

/-! ### wide ints -/
section
variable {X : Cx} {pos : Pos} {a b : Expr} {ta tb : TE} {da db : DTE}
theorem de_mulW (ha : DC X a ta da) (hb : DC X b tb db) : DE X (.BinOp a .Mult b pos) (tOp (rI CMulW fun i j => .int (i * j)) ta tb) (dOp (rdI CMulW fun i j => .int (i * j)) da db) := de_op op_mulW (lr_I fun _ _ _ => rfl) ha hb
theorem de_divW (ha : DC X a ta da) (hb : DC X b tb db) : DE X (.BinOp a .FloorDiv b pos) (tOp (rI CDivW fun i j => .int (i / j)) ta tb) (dOp (rdI CDivW fun i j => .int (i / j)) da db) := de_op op_fdivW (lr_I fun _ _ _ => rfl) ha hb
end

/-! ### a call that borrows what is the def's own -/
mutual
/-- no list in it -/
def noL : D → Bool
  | .lst _ => false
  | .ab _ => false
  | .dk _ xs => noLs xs
  | .dn ks xs => noLs ks && noLs xs
  | .tup xs => noLs xs
  | .ins _ _ xs => noLs xs
  | _ => true
def noLs : List D → Bool
  | [] => true
  | d :: ds => noL d && noLs ds
end
def ownLst (ρ : Rho) : Bool := ρ.all fun s => match s with
  | .ow (.lst _) => true
  | .ow _ => false
  | .my _ _ => false
  | _ => true
section
variable {K : KW} {F F2 : Hp}
mutual
theorem rep_del (h : ∀ b o, F b = some o → (∀ vs, o ≠ .lst vs) → F2 b = some o) : ∀ {d : D} {v : V}, noL d = true → Rep K F d v → Rep K F2 d v
  | .non, _, _, r => r
  | .bl _, _, _, r => r
  | .int _, _, _, r => r
  | .str _, _, _, r => r
  | .rf _, _, _, r => r
  | .lst _, _, e, _ => by cases e
  | .ab _, _, e, _ => by cases e
  | .tup xs, _, e, ⟨a, vs, e1, hq, hl, r⟩ => ⟨a, vs, e1, by
      rcases hq with (hq | ⟨ob, hq⟩) | hq
      · exact .inl (.inl (h _ _ hq fun _ z => by cases z))
      · exact .inl (.inr ⟨ob, h _ _ hq fun _ z => by cases z⟩)
      · exact .inr hq, hl, reps_del h (show noLs xs = true from e) r⟩
  | .dk ks xs, _, e, ⟨a, vs, e1, hq, hl, r⟩ => ⟨a, vs, e1, by
      rcases hq with hq | ⟨ob, hq⟩
      · exact .inl (h _ _ hq fun _ z => by cases z)
      · exact .inr ⟨ob, h _ _ hq fun _ z => by cases z⟩, hl, reps_del h (show noLs xs = true from e) r⟩
  | .dn ks xs, _, e, ⟨a, kqs, vs, e1, hq, hl, r⟩ => by
      have e' : (noLs ks && noLs xs) = true := e
      rw [Bool.and_eq_true] at e'
      exact ⟨a, kqs, vs, e1, h _ _ hq (fun _ z => by unfold DnO at z; cases z), repKs_del h e'.1 hl, reps_del h e'.2 r⟩
  | .ins C fs xs, _, e, ⟨a, dx, vs, e1, hq, hl, r⟩ => ⟨a, dx, vs, e1, h _ _ hq (fun _ z => by cases z), hl, reps_del h (show noLs xs = true from e) r⟩
theorem reps_del (h : ∀ b o, F b = some o → (∀ vs, o ≠ .lst vs) → F2 b = some o) : ∀ {ds : List D} {vs : List V}, noLs ds = true → Reps K F ds vs → Reps K F2 ds vs
  | [], _, _, r => r
  | d :: ds, _, e, ⟨v, r, e1, h1, h2⟩ => by
    have e' : (noL d && noLs ds) = true := e
    rw [Bool.and_eq_true] at e'
    exact ⟨v, r, e1, rep_del h e'.1 h1, reps_del h e'.2 h2⟩
theorem repKs_del (h : ∀ b o, F b = some o → (∀ vs, o ≠ .lst vs) → F2 b = some o) : ∀ {ds : List D} {vs : List (NestedKey × Addr)}, noLs ds = true → RepKs K F ds vs → RepKs K F2 ds vs
  | [], _, _, r => r
  | d :: ds, _, e, ⟨k, q, r, e1, h0, h9, h1, h2⟩ => by
    have e' : (noL d && noLs ds) = true := e
    rw [Bool.and_eq_true] at e'
    exact ⟨k, q, r, e1, h0, h9, rep_del h e'.1 h1, repKs_del h e'.2 h2⟩
end
end
section
variable {X : Cx} {pos : Pos} {e : Expr} {es : List Expr} {t : TA} {ub : DTB}
theorem own_at {ρ : Rho} (h : ownLst ρ = true) {i : Nat} {s : Sl} (e : ρ[i]? = some s) : (∀ d, s = .ow d → ∃ xs, d = .lst xs) ∧ ∀ a d, s ≠ .my a d := by
  have := List.all_eq_true.mp h s (List.mem_of_getElem? e)
  refine ⟨fun d z => ?_, fun a d z => ?_⟩
  · subst z
    cases d <;> first | exact ⟨_, rfl⟩ | cases this
  · subst z
    cases this
def dCallB (S : SD) (dd : List D) (ub : DTB) : DTE := fun ρ P => ownLst ρ = true ∧ ub ρ fun xs => S (xs ++ dd) fun z => noL z = true ∧ P z ρ
theorem le_callB {S : SD} {dd : List D} {E : XK} (hd : dd.all isFlat = true) (h : DB X es t ub) (N : En) (F H : Hp) (σ : L2.St) (ρ : Rho) (P : D → Rho → Prop) (Q : VK) (R : RelS X.kw N F H σ ρ) (q : dCallB S dd ub ρ P)
    (k : ∀ x v F' H' ρ', P x ρ' → Same F F' → RelS X.kw N F' H' σ ρ' → Rep X.kw F' x v → Q v H') : tCall (spD X.kw S) (dd.map flatV) E t σ H Q := by
  obtain ⟨ho, q⟩ := q
  refine h.la N F H σ ρ _ _ R q fun xs vs F1 H1 q1 s1 R1 r1 => ?_
  obtain ⟨own, w1, w2⟩ := R1.sl
  let op : Addr → Prop := fun b => ∃ i d, own b = some i ∧ ρ[i]? = some (.ow d) ∧ σ[i]? = some (some (.ref b))
  have hop : ∀ b, op b → F1 b = none ∧ ∃ ds us, H1 b = some (.lst us) ∧ us.length ≤ sizeLine ∧ Reps X.kw F1 ds us := fun b ⟨i, d, e1, e2, e3⟩ => by
    obtain ⟨xs, ex⟩ := (own_at ho e2).1 d rfl
    subst ex
    obtain ⟨o, e4, a, u, e5, _, hH, us, eu, hl, r⟩ := w2 i _ e2
    rw [e3] at e4
    cases e4
    cases e5
    exact ⟨(w1 b i e1).1, xs, us, by rw [hH, eu], hl, r⟩
  classical
  let Fb : Hp := fun b => if op b then H1 b else F1 b
  have sF : Same F1 Fb := fun b o e => by
    show (if op b then H1 b else F1 b) = some o
    rw [if_neg fun z => by rw [(hop b z).1] at e; cases e]
    exact e
  have sb : Sub Fb H1 := fun b o e => by
    have e : (if op b then H1 b else F1 b) = some o := e
    by_cases hb : op b
    · rw [if_pos hb] at e
      obtain ⟨_, ds, us, hH, _⟩ := hop b hb
      exact .inl ⟨e, fun _ z => by rw [hH, z] at e; cases e⟩
    · rw [if_neg hb] at e; exact R1.sub b o e
  have args : ∀ {xs : List D} {vs : List V}, Opds X.kw F1 σ ρ xs vs → Reps X.kw Fb xs vs := by
    intro xs
    induction xs with
    | nil => intro vs r; exact r
    | cons x xs ih =>
      intro vs r
      obtain ⟨v, t, e, h1, h2⟩ := r
      refine ⟨v, t, e, ?_, ih h2⟩
      rcases h1 with h1 | ⟨i, h1, h2 | ⟨a, h2⟩⟩
      · exact h1.mono sF
      · obtain ⟨ys, ex⟩ := (own_at ho h2).1 x rfl
        subst ex
        obtain ⟨o, e4, a, u, e5, eo, hH, us, eu, hl, r⟩ := w2 i _ h2
        rw [h1] at e4
        cases e4
        cases e5
        have hb : op a := ⟨i, _, eo, h2, h1⟩
        exact ⟨a, us, rfl, SqL.of (by show (if op a then H1 a else F1 a) = _; rw [if_pos hb, hH, eu]), hl, r.mono sF⟩
      · exact absurd rfl ((own_at ho h2).2 _ _)
  refine ⟨Fb, xs ++ dd, _, R1.tb, sb, (args r1).append (reps_flat hd), q1, fun x v F2 H2 p st rr => ?_⟩
  let Fc : Hp := fun b => if op b then none else F2 b
  have hc : ∀ b, ¬ op b → Fc b = F2 b := fun b hb => if_neg hb
  have hlst : ∀ b o, F2 b = some o → (∀ vs, o ≠ .lst vs) → Fc b = some o := fun b o e1 e2 => by
    rw [hc b fun z => ?_]
    · exact e1
    · obtain ⟨_, ds, us, hH, _⟩ := hop b z
      have : Fb b = some (.lst us) := by show (if op b then H1 b else F1 b) = _; rw [if_pos z, hH]
      rw [st.ff _ _ this] at e1
      cases e1
      exact e2 us rfl
  have st2 : Stp F1 H1 Fc H2 := ⟨st.hh, fun b o e1 => by
      have hb : ¬ op b := fun z => by rw [(hop b z).1] at e1; cases e1
      rw [hc b hb]
      exact st.ff b o (sF b o e1), fun b o e1 => by
      by_cases hb : op b
      · rw [show Fc b = none from if_pos hb] at e1; cases e1
      · rw [hc b hb] at e1; exact st.sub b o e1, fun b o e1 => by
      by_cases hb : op b
      · rw [show Fc b = none from if_pos hb] at e1; cases e1
      · rw [hc b hb] at e1
        refine (st.new b o e1).imp (fun z => ?_) id
        have z : (if op b then H1 b else F1 b) = some o := z
        rw [if_neg hb] at z
        exact z, st.fz, st.nn, st.tb, st.tt⟩
  exact k x v Fc H2 ρ p.2 (s1.trans st2.ff) (R1.step st2) (rep_del hlst p.1 rr)
theorem de_callB {x : Str} {p : Pos} {k j : Nat} {S : SD} {dd : List D} (c : Kn X.prog X.w X.K X.mg X.base k x S dd) (hr : Room j X.A) (hk : k ≤ j) (hg : Gl X x) (h : DB X (e :: es) t ub)
    (hdb : (x == ("__debug__" : Str)) = false := by decide) (he : starEach (e :: es) X.env = (false, eval e X.env) :: starEach es X.env := by rfl) (hpl : (backTo pos (starEach es X.env)).any (·.1) = false := by rfl) :
    DE X (.Call (.Name x p) (e :: es) [] pos) (tCall (spD X.kw S) (dd.map flatV) E0 t) (dCallB S dd ub) := by
  obtain ⟨f, fd, ps, ds, hf, hm, kp, hb, hv⟩ := c.ex
  exact ⟨pe_call hf (hr.mono hk) hg hm kp hb hv pass0 h.pa hdb he hpl, le_callB c.fl h⟩
end
end Dc

namespace Dc
open PySem PySem.Spec
open PyProof.Rows L2
open LamX (ExtN Tabs TabS TabB CodeO codeO_ne among_app inv_table)
open NdefX (NF NScope CellsAt Caps ncx startF envF inv_startN cells_of slotAt slotAt_of slotAt_some)
variable [TabsT]

/-! ### a lambda with parameters, handed to a def -/
/-- the heap behind the making of a function: its code object and table may be new -/
structure Made (T : List (Addr × Str)) (H H1 : Hp) : Prop where
  ext : ExtN H H1
  tb : Tabs T H1
  nn : ∀ a, H1 a = none → H a = none
  fz : ∀ a ob u, H1 a = some (.frz ob u) → H a = some (.frz ob u)
  tt : ∀ a ps, H a = some (.tbl ps) → ∃ ps', H1 a = some (.tbl ps')
theorem Made.stp {F H H1 : Hp} (m : Made TabsT.T H H1) (s : Sub F H) : Stp F H F H1 := ⟨m.ext, .refl _, fun a o e => (s a o e).imp (fun z => ⟨m.ext _ _ z.1 z.2, z.2⟩) (fun ⟨q, ob, z⟩ => ⟨q, ob, m.ext _ _ z fun _ y => by cases y⟩), fun _ _ e => .inl e, m.fz, m.nn, fun _ => m.tb, m.tt⟩
abbrev lamName (X : Cx) : Str := X.env.qual ++ "<lambda>"
section
variable {X : Cx} {pins : List (Addr × Obj)} {σ : L2.St} {H : Hp} {s : Shared}
theorem lam_make3 {T : List (Addr × Str)} {c P : Addr} {params : Arguments} {body : Expr} {scope : Scope} {pos : Pos} {E : Value → Shared → Prop} {Q : Value → Shared → Prop} (I : Inv X pins σ H s) (TB : TabB X.base X.mg c P) (hcode : X.env.code = .ref c)
    (hm : (P, lamName X) ∈ T) (hu : ∀ p ∈ T, p.1 = P → p.2 = lamName X) (hT : Tabs T H) (hdef : defaultsOf params X.env = ([], [])) (hfree : ∀ y ∈ scope.names, y.2 = .free → ∃ c, X.env.cells.lookup y.1 = some c)
    (h : ∀ (f c' : Addr) (pm ctv : Value) (H1 : Hp) (s' : Shared), Inv X pins σ H1 s' → Made T H H1 →
      s'.heap.get? f = some (PySem.W.kla_obj "<lambda>" (lamName X) params body scope (cloFrom X.env.cells scope.names []) pm c' ctv) → H1 f = none → f ∉ frs X.stack → H1 c' = some (CodeO c' (lamName X)) → Q (.ref f) s') :
    wpAny (model X.prog X.w) X.A (eval (.Lambda params body scope pos) X.env) Q E s := by
  obtain ⟨tab, hP, ht, hin⟩ := hT _ hm
  refine PySem.W.kla_eval hdef ?_
  have atP : s.heap.get? P = some { cls := .none, data := .fields tab } := I.hok P _ hP
  have blt : s.heap.BuiltinsAt X.mg P := TB.bm.keeps I.bk
  have glb := I.mod.glob.keeps I.bk
  have chd := TB.code.keeps I.bk
  have away : ∀ f, s.heap.objs.size ≤ f → f ∉ frs X.stack := fun f hf z => by
    rcases List.mem_cons.mp (I.stkSub _ z) with e | e
    · exact absurd (e ▸ I.lt) (Nat.not_lt.mpr hf)
    · exact I.nofs hf e
  cases hc : codeAmong pos tab.toList with
  | some cv =>
    obtain ⟨c', e, hco⟩ := hin pos cv hc
    subst e
    refine PySem.W.kla_makeFunctionHit (mg := X.mg) (c := c) (P := P) (ps := tab) (closure_ok hfree) I.ok.glob glb hcode chd atP ht hc blt fun ctv hp tk kx hsz => ?_
    exact h hp.objs.size c' ((X.mg "__name__").getD .none) ctv H _ (I.kept fun b o e => Heap.get?_push_of_some _ (kx b o e)) ⟨ExtN.refl H, hT, fun _ e => e, fun _ _ _ e => e, fun _ ps e => ⟨ps, e⟩⟩ (Heap.get?_push_size _ rfl) (I.hok.fresh hsz) (away _ hsz) hco
  | none =>
    refine PySem.W.kla_makeFunction (mg := X.mg) (c := c) (P := P) (ps := tab) (closure_ok hfree) I.ok.glob glb hcode chd atP ht hc TB.gP blt fun c' ctv hp tk kx hge hlt hrec htb => ?_
    obtain ⟨c2, oc, vs, t, e2, hoc, hd, hv⟩ := hrec
    cases e2
    have hsz : s.heap.objs.size ≤ hp.objs.size := Nat.le_trans hge (Nat.le_of_lt hlt)
    have nC : H c' = none := I.hok.fresh hge
    let tab' : Array Value := tab ++ #[rawInt pos.line, rawInt pos.col, .ref c']
    let H1 : Hp := upd (upd H P (.tbl tab')) c' (CodeO c' (lamName X))
    have hE : ExtN H H1 := fun b o e n => by
      show upd (upd H P (.tbl tab')) c' (CodeO c' (lamName X)) b = some o
      rw [upd_ne (ne_of_none e nC), upd_ne fun z => n tab (Option.some.inj (e.symm.trans (by rw [z]; exact hP)))]
      exact e
    have eL : tab'.toList = tab.toList ++ [rawInt pos.line, rawInt pos.col, .ref c'] := by simp [tab']
    have PC : P ≠ c' := ne_of_none hP nC
    have H1P : H1 P = some (.tbl tab') := by show upd (upd H P (.tbl tab')) c' _ P = _; rw [upd_ne PC, upd_same]
    have H1n : ∀ b, b ≠ P → b ≠ c' → H1 b = H b := fun b h1 h2 => by show upd (upd H P (.tbl tab')) c' _ b = _; rw [upd_ne h2, upd_ne h1]
    have tabs : Tabs T H1 := fun p hp => by
      by_cases hb : p.1 = P
      · rw [hu p hp hb, hb]
        refine ⟨tab', H1P, by rw [eL]; exact PySem.TriplesOk_snoc _ _ _ _ ht, fun p' cv hcv => ?_⟩
        rw [eL] at hcv
        rcases among_app _ ht hcv with z | z
        · obtain ⟨c0, e1, e2⟩ := hin p' cv z
          exact ⟨c0, e1, hE _ _ e2 codeO_ne⟩
        · exact ⟨c', z, upd_same⟩
      · obtain ⟨ps', a1, a2, a3⟩ := hT p hp
        refine ⟨ps', by rw [H1n _ hb (ne_of_none a1 nC)]; exact a1, a2, fun p' cv hcv => ?_⟩
        obtain ⟨c0, e1, e2⟩ := a3 p' cv hcv
        exact ⟨c0, e1, hE _ _ e2 codeO_ne⟩
    refine h hp.objs.size c' ((X.mg "__name__").getD .none) ctv H1 _ (inv_table (t' := tk) (more := #[rawInt pos.line, rawInt pos.col, .ref c']) (h' := hp.push (PySem.W.kla_obj "<lambda>" (lamName X) params body scope (cloFrom X.env.cells scope.names []) ((X.mg "__name__").getD .none) c' ctv)) I hP
      (fun b o hb e => Heap.get?_push_of_some _ (kx b o hb e)) (Heap.get?_push_of_some _ htb) hge ⟨oc, vs, t, Heap.get?_push_of_some _ hoc, hd, hv⟩) ⟨hE, tabs, fun a e => ?_, fun a ob u e => ?_, fun a ps e => ?_⟩ (Heap.get?_push_size _ rfl) ?_ (away _ hsz) upd_same
    · by_cases h1 : a = c'
      · rw [h1, show H1 c' = some _ from upd_same] at e; cases e
      · by_cases h2 : a = P
        · rw [h2, H1P] at e; cases e
        · rw [H1n a h2 h1] at e; exact e
    · by_cases h1 : a = c'
      · rw [h1, show H1 c' = some (CodeO c' (lamName X)) from upd_same] at e; unfold CodeO at e; cases e
      · by_cases h2 : a = P
        · rw [h2, H1P] at e; cases e
        · rw [H1n a h2 h1] at e; exact e
    · by_cases h2 : a = P
      · exact ⟨tab', by rw [h2]; exact H1P⟩
      · exact ⟨ps, by rw [H1n a h2 (ne_of_none e nC)]; exact e⟩
    · rw [H1n _ (Nat.ne_of_gt (Nat.lt_of_lt_of_le (Heap.lt_size atP) hsz)) (Nat.ne_of_gt hlt)]
      exact I.hok.fresh hsz
/-- the captured cells stand later, too -/
theorem cells_un {cl : List (Str × Addr)} {fr : List Str} {ws : List (Option V)} {fs : List Addr} {h h1 : Heap} {H HZ : Hp} (C : CellsAt cl fr ws h H) (un : Un fs [] H HZ h h1) : CellsAt cl fr ws h1 HZ := by
  have kp : ∀ y c, cl.lookup y = some c → ∀ v, h.IsCell c v → h1.IsCell c v := fun y c e v ⟨o, ho, hd⟩ => by
    obtain ⟨sl, q⟩ := un.any ho (C.all y c e).1 (by simp)
    exact ⟨_, q, hd⟩
  refine ⟨C.len, fun y c e => ?_, C.inj, fun i y e => ?_⟩
  · obtain ⟨n, v, z⟩ := C.all y c e
    have z' := z
    obtain ⟨o, ho, _⟩ := z
    exact ⟨un.free c o ho n (by simp), v, kp y c e v z'⟩
  · obtain ⟨c, hc, hv⟩ := C.has i y e
    exact ⟨c, hc, fun v ev => let ⟨u, r, z⟩ := hv v ev; ⟨u, r, kp y c hc _ z⟩⟩
/-- the lambda's words -/
abbrev lamF (X : Cx) (params : Arguments) (scope : Scope) (c' : Addr) : NF := ⟨"<lambda>", lamName X, params, [], scope, cloFrom X.env.cells scope.names [], c'⟩
/-- the lambda, called later: what its body makes -/
theorem run_lam {A : Around} {outer : List Env} {s1 : Shared} {HZ : Hp} {E : XK} {Q : VK} {us : List Value} {vs : List V} {fs : List Addr} {Ns ps fr : List Str} {js : List Nat} {f c' : Addr} {pm ctv : Value} {params : Arguments} {body : Expr} {scope : Scope} {k : Nat} {tb : TE}
    (I : Inv X pins σ H s) (hf1 : s1.heap.get? f = some (PySem.W.kla_obj "<lambda>" (lamName X) params body scope (cloFrom X.env.cells scope.names []) pm c' ctv)) (cp : Caps X (cloFrom X.env.cells scope.names []) fr js)
    (S : NScope Ns ps fr scope) (hb : bindArgs (PySem.W.kla_fn "<lambda>" (lamName X) params body scope (cloFrom X.env.cells scope.names []) pm (.ref c') ctv) ⟨us, []⟩ = pure (ps.zip us)) (hl : vs.length = ps.length)
    (e0 : Env0 X.prog X.w X.K X.mg X.base A outer s1 HZ) (un : Un fs [] H HZ s.heap s1.heap) (hc : HZ c' = some (CodeO c' (lamName X))) (r : Vals vs us) (hr : Room (k + 1) A)
    (hbody : Room k (A.deeper (envF (lamF X params scope c') f s1.heap.objs.size)) → PE (ncx CX0 X.prog X.w X.K X.mg X.base Ns (lamF X params scope c') f A outer s1 HZ E) body tb) (q : tb (startF Ns vs (js.map (slotAt σ))) HZ Q) :
    codeAny (model X.prog X.w) A (.call (.ref f) ⟨us, []⟩) (CR CX0 outer X.prog X.w HZ s1 Q E) s1 := by
  obtain ⟨⟨oc, vs', t, hoc, hdc, hvc⟩, _, _⟩ := e0.hok c' _ hc
  have lim : s1.heap.NoLimit := e0.mod.nolimit.keeps fun b o e => (e0.bs b o e).1
  refine PySem.W.kla_callFunE hr.depth hf1 rfl S.co S.gen rfl ⟨c', oc, vs', t, rfl, hoc, hdc, hvc⟩ ?_
  rw [hb]
  refine wpAny_pure (wpAny_newFunctionEnv S.nocell (fun ⟨n, _⟩ hy => S.par n (List.of_mem_zip hy).1) (fun h₁ hns hsb => ⟨lim.fresh _ hsb, ?_⟩) S.kind)
  show codeAny _ _ (.expr body (envF (lamF X params scope c') f s1.heap.objs.size)) _ _
  have kp : ∀ b o, s1.heap.get? b = some o → h₁.get? b = some o := fun b o e => hsb.extBut b o (Nat.ne_of_lt (Heap.lt_size e)) (Heap.get?_push_of_some _ e)
  have J := inv_startN (CX := CX0) (F := lamF X params scope c') (f := f) (E := E) (tk := s1.toks + (ps.zip us).length) S hr.hd e0 hl r (cells_un (cells_of I cp) un) hns kp
  refine PySem.W.kla_codeExpr (wpAny_mono ((hbody (hr.deeper _)).run [] _ _ HZ Q J q) (fun v s' hq => ?_) fun e s' hq => hq)
  obtain ⟨w', H', J', rv, q⟩ := hq
  exact ⟨w', H', J'.os, J'.bare, J'.base, J'.hok, rv, q⟩
end

/-! what does not lean on a code object -/
mutual
def noA : D → Bool
  | .ab _ => false
  | .lst xs => noAs xs
  | .dk _ xs => noAs xs
  | .dn ks xs => noAs ks && noAs xs
  | .tup xs => noAs xs
  | .ins _ _ xs => noAs xs
  | _ => true
def noAs : List D → Bool
  | [] => true
  | d :: ds => noA d && noAs ds
end
section
variable {K : KW} {F F2 : Hp}
mutual
theorem rep_delA (h : ∀ b o, F b = some o → NC o → F2 b = some o) : ∀ {d : D} {v : V}, noA d = true → Rep K F d v → Rep K F2 d v
  | .non, _, _, r => r
  | .bl _, _, _, r => r
  | .int _, _, _, r => r
  | .str _, _, _, r => r
  | .rf _, _, _, r => r
  | .ab _, _, e, _ => by cases e
  | .lst xs, _, e, ⟨a, vs, e1, hq, hl, r⟩ => ⟨a, vs, e1, by
      rcases hq with (hq | ⟨ob, hq⟩) | hq
      · exact .inl (.inl (h _ _ hq fun _ _ z => by unfold CodeO at z; cases z))
      · exact .inl (.inr ⟨ob, h _ _ hq fun _ _ z => by unfold CodeO at z; cases z⟩)
      · exact .inr hq, hl, reps_delA h (show noAs xs = true from e) r⟩
  | .tup xs, _, e, ⟨a, vs, e1, hq, hl, r⟩ => ⟨a, vs, e1, by
      rcases hq with (hq | ⟨ob, hq⟩) | hq
      · exact .inl (.inl (h _ _ hq fun _ _ z => by unfold CodeO at z; cases z))
      · exact .inl (.inr ⟨ob, h _ _ hq fun _ _ z => by unfold CodeO at z; cases z⟩)
      · exact .inr hq, hl, reps_delA h (show noAs xs = true from e) r⟩
  | .dk ks xs, _, e, ⟨a, vs, e1, hq, hl, r⟩ => ⟨a, vs, e1, by
      rcases hq with hq | ⟨ob, hq⟩
      · exact .inl (h _ _ hq fun _ _ z => by unfold CodeO at z; cases z)
      · exact .inr ⟨ob, h _ _ hq fun _ _ z => by unfold CodeO at z; cases z⟩, hl, reps_delA h (show noAs xs = true from e) r⟩
  | .dn ks xs, _, e, ⟨a, kqs, vs, e1, hq, hl, r⟩ => by
      have e' : (noAs ks && noAs xs) = true := e
      rw [Bool.and_eq_true] at e'
      exact ⟨a, kqs, vs, e1, h _ _ hq dn_nc, repKs_delA h e'.1 hl, reps_delA h e'.2 r⟩
  | .ins C fs xs, _, e, ⟨a, dx, vs, e1, hq, hl, r⟩ => ⟨a, dx, vs, e1, h _ _ hq (fun _ _ z => by unfold CodeO at z; cases z), hl, reps_delA h (show noAs xs = true from e) r⟩
theorem reps_delA (h : ∀ b o, F b = some o → NC o → F2 b = some o) : ∀ {ds : List D} {vs : List V}, noAs ds = true → Reps K F ds vs → Reps K F2 ds vs
  | [], _, _, r => r
  | d :: ds, _, e, ⟨v, r, e1, h1, h2⟩ => by
    have e' : (noA d && noAs ds) = true := e
    rw [Bool.and_eq_true] at e'
    exact ⟨v, r, e1, rep_delA h e'.1 h1, reps_delA h e'.2 h2⟩
theorem repKs_delA (h : ∀ b o, F b = some o → NC o → F2 b = some o) : ∀ {ds : List D} {vs : List (NestedKey × Addr)}, noAs ds = true → RepKs K F ds vs → RepKs K F2 ds vs
  | [], _, _, r => r
  | d :: ds, _, e, ⟨k, q, r, e1, h0, h9, h1, h2⟩ => by
    have e' : (noA d && noAs ds) = true := e
    rw [Bool.and_eq_true] at e'
    exact ⟨k, q, r, e1, h0, h9, rep_delA h e'.1 h1, repKs_delA h e'.2 h2⟩
end
end
/-! the lambda's slots: its parameters, what it captured -/
def capS : Option Sl → Sl
  | some (.sh d) => .sh d
  | _ => .no
def capSl (ρ : Rho) (js : List Nat) : Rho := js.map fun j => capS ρ[j]?
def rhoF (n : Nat) (xs : List D) (cs : Rho) : Rho := xs.map Sl.sh ++ (cs ++ List.replicate (n - xs.length - cs.length) Sl.no)
theorem rel_startF {K : KW} {N : En} {F H F' H' : Hp} {σ : L2.St} {ρ : Rho} {Ns : List Str} {js : List Nat} {xs : List D} {vs : List V} (R : RelS K N F H σ ρ) (sF : Same F F') (tb : Tabs TabsT.T H') (sb : Sub F' H') (r : Reps K F' xs vs) :
    RelS K ⟨F', H', []⟩ F' H' (startF Ns vs (js.map (slotAt σ))) (rhoF Ns.length xs (capSl ρ js)) := by
  refine ⟨sb, .refl _, fun _ _ e => .inl e, fun _ _ e _ => .inl e, fun _ e => e, tb, fun _ ps e => ⟨ps, e⟩, fun p hp => absurd hp (by simp), fun _ _ _ e => .inl e, fun _ => none, fun _ _ e => by simp at e, fun i x e => ?_⟩
  have hl := r.length
  unfold rhoF at e
  unfold startF
  by_cases hi : i < xs.length
  · rw [List.getElem?_append_left (by simpa using hi), List.getElem?_map] at e
    obtain ⟨d, hd⟩ : ∃ d, xs[i]? = some d := ⟨xs[i], by simp [hi]⟩
    rw [hd] at e
    cases e
    obtain ⟨v, hv, rv⟩ := r.get hd
    refine ⟨some v, ?_, v, rfl, rv⟩
    rw [List.getElem?_append_left (by simpa [← hl] using hi), List.getElem?_map, hv]
    rfl
  · rw [List.getElem?_append_right (by simpa using hi)] at e
    rw [List.getElem?_append_right (by simp [← hl]; omega)]
    simp only [List.length_map] at e ⊢
    by_cases h2 : i - xs.length < js.length
    · rw [List.getElem?_append_left (by simpa [capSl] using h2)] at e
      rw [List.getElem?_append_left (by rw [← hl]; simpa using h2)]
      unfold capSl at e
      rw [List.getElem?_map] at e ⊢
      rw [← hl]
      obtain ⟨j, hj⟩ : ∃ j, js[i - xs.length]? = some j := ⟨js[i - xs.length], by simp [h2]⟩
      rw [hj] at e ⊢
      refine ⟨_, rfl, ?_⟩
      have e : capS ρ[j]? = x := Option.some.inj e
      cases hs : ρ[j]? with
      | none => rw [hs] at e; subst e; trivial
      | some y =>
        rw [hs] at e
        cases y with
        | sh d =>
          subst e
          obtain ⟨v, hv, rv⟩ := R.shared hs
          exact ⟨v, slotAt_of hv, rv.mono sF⟩
        | _ => subst e; trivial
    · rw [List.getElem?_append_right (by simpa [capSl] using h2)] at e
      obtain ⟨h3, h4⟩ := List.getElem?_eq_some_iff.mp e
      simp at h3 h4
      subst h4
      refine ⟨none, ?_, trivial⟩
      rw [List.getElem?_append_right (by rw [← hl]; simpa using h2)]
      rw [List.getElem?_replicate, if_pos]
      simp only [List.length_map]
      simp [capSl] at h3
      omega
/-- a lambda as data: its address, its code object -/
def lamR (F1 : Hp) (f c' : Addr) (q : Str) : D := .ab fun F a => a = f ∧ F c' = some (CodeO c' q) ∧ Same F1 F
abbrev LamD := List D → (D → Prop) → Prop
def dAct (i : Nat) (x : D) (L : LamD) (ue : DTE) : DTE := fun ρ P => ρ[i]? = some (.sh x) ∧ ue ρ fun y ρ1 => L [y] fun z => P z ρ1
/-- the callee's context -/
abbrev calCx (X : Cx) (Ng : List Str) (qg : Str) (sg : Scope) (g : Addr) (cdg : Value) (s : Shared) (H : Hp) : Cx := (cxOf CX0 X.prog X.w X.K X.mg X.base Ng qg sg g cdg X.A X.stack s H E0).nox
/-- what the callee makes of what it got: a calls it -/
def TakesF (X : Cx) (Ng : List Str) (qg : Str) (sg : Scope) (g : Addr) (bg : List Stmt) (k : Nat) (i : Nat) (a : Str) (G : D → LamD → DTS) : Prop :=
  ∀ (cdg : Value) (s : Shared) (H : Hp) (x : D) (L : LamD), Room k (X.A.deeper (envOfC qg sg s.heap.objs.size g cdg)) →
    (∀ (e : Expr) (te : TE) (ue : DTE) (p1 p2 : Pos), DE (calCx X Ng qg sg g cdg s H) e te ue → starEach [e] (calCx X Ng qg sg g cdg s H).env = [(false, eval e (calCx X Ng qg sg g cdg s H).env)] →
      ∃ t, DE (calCx X Ng qg sg g cdg s H) (.Call (.Name a p1) [e] [] p2) t (dAct i x L ue)) →
    ∃ t, DSs (calCx X Ng qg sg g cdg s H) bg t (G x L)
/-- x(e1, lambda ..: body) -/
def tLamC (X : Cx) (Ng : List Str) (qg : Str) (sg : Scope) (g : Addr) (bg : List Stmt) (Ns ps : List Str) (js : List Nat) (ku : Nat) (tb : TE) (t1 : TE) : TE := fun σ H Q => t1 σ H fun v1 H1 => Tabs TabsT.T H1 ∧ ∀ (f c' : Addr) (H2 : Hp) (s' : Shared) (cdg : Value), Made TabsT.T H1 H2 → H2 f = none → H2 c' = some (CodeO c' (lamName X)) →
  Room ku (X.A.deeper (envOfC qg sg s'.heap.objs.size g cdg)) →
  (∀ (i : Nat) (a : Str) (e : Expr) (te : TE) (p1 p2 : Pos), Ng[i]? = some a → Vis sg a → (a == ("__debug__" : Str)) = false → (a == ("__classdict__" : Str)) = false → ps.length = 1 → PE (calCx X Ng qg sg g cdg s' H2) e te → starEach [e] (calCx X Ng qg sg g cdg s' H2).env = [(false, eval e (calCx X Ng qg sg g cdg s' H2).env)] →
    PE (calCx X Ng qg sg g cdg s' H2) (.Call (.Name a p1) [e] [] p2) (fun σZ HZ Q => σZ[i]? = some (some (.ref f)) ∧ te σZ HZ fun v H3 => H3 c' = some (CodeO c' (lamName X)) ∧ tb (startF Ns [v] (js.map (slotAt σ))) H3 Q)) →
  ∃ t, PSs (calCx X Ng qg sg g cdg s' H2) bg t ∧ t { nx := fun _ H' => Q .non H', rt := Q } (L2.start Ng [v1, .ref f]) H2
section
variable {X : Cx} {pos p lpos : Pos} {e1 : Expr} {t1 tb : TE} {d1 db : DTE}
theorem pe_lamC {x qg : Str} {pg : Arguments} {bg : List Stmt} {sg : Scope} {dvs : List V} {kws : List (Str × V)} {g c P : Addr} {fd : FuncData} {k : Nat} {Ng psg Ns ps fr : List Str} {js : List Nat} {params : Arguments} {body : Expr} {scope : Scope}
    (hg : Gl X x) (hm : X.mg x = some (.ref g)) (Fd : FunD X.K qg qg pg bg sg dvs kws g fd) (hb : L2.Binds X.K fd psg []) (Sg : FnScope Ng psg sg) (h2 : psg.length = 2)
    (TB : TabB X.base X.mg c P) (hcode : X.env.code = .ref c) (hmT : (P, lamName X) ∈ TabsT.T) (hu : ∀ p ∈ TabsT.T, p.1 = P → p.2 = lamName X) (hr : Room (k + 2) X.A)
    (hdef : defaultsOf params X.env = ([], [])) (hfree : ∀ y ∈ scope.names, y.2 = .free → X.env.scope.names.lookup y.1 = some .cell ∨ X.env.scope.names.lookup y.1 = some .free) (hfr : ∀ y ∈ fr, (y, NameKind.free) ∈ scope.names) (hjs : js.map (fun j => X.N[j]?) = fr.map some)
    (S : NScope Ns ps fr scope) (hbind : ∀ (q : Str) (cl : List (Str × Addr)) (pm cv ctv u : Value), bindArgs (PySem.W.kla_fn "<lambda>" q params body scope cl pm cv ctv) ⟨[u], []⟩ = pure (ps.zip [u]))
    (h1 : PE X e1 t1) (hbody : ∀ (A : Around) (outer : List Env) (s : Shared) (H : Hp) (E : XK) (f c' : Addr), Room k (A.deeper (envF (lamF X params scope c') f s.heap.objs.size)) → PE (ncx CX0 X.prog X.w X.K X.mg X.base Ns (lamF X params scope c') f A outer s H E) body tb)
    (hdb : (x == ("__debug__" : Str)) = false := by decide) (he : starEach [e1, .Lambda params body scope lpos] X.env = [(false, eval e1 X.env), (false, eval (.Lambda params body scope lpos) X.env)] := by rfl)
    (he2 : starEach [.Lambda params body scope lpos] X.env = [(false, eval (.Lambda params body scope lpos) X.env)] := by rfl) (hpl : (backTo pos (starEach [.Lambda params body scope lpos] X.env)).any (·.1) = false := by rfl) :
    PE X (.Call (.Name x p) [e1, .Lambda params body scope lpos] [] pos) (tLamC X Ng qg sg g bg Ns ps js (k + 1) tb t1) := by
  refine ⟨fun pins s σ H Q I h => ?_⟩
  obtain ⟨oc, od, dV, kV, doc, pm, an, cdv, ct, osl, efd, lk, hcd, _, _⟩ := Fd.ex
  refine wpAny_Call_Name_kw (ld_glob I hg hm ?_ hdb)
  have hcl : ∀ y ∈ scope.names, y.2 = .free → ∃ c, X.env.cells.lookup y.1 = some c := fun y hy e => (hfree y hy e).elim (fun z => I.ok.has _ (.inl z)) fun z => I.ok.has _ (.inr z)
  have cp : Caps X (cloFrom X.env.cells scope.names []) fr js := Caps.made I.ok hfree hfr hjs
  refine PySem.W.callWith_K (h₀ := X.base) I.ok.mod.kin Fd.kp ?_ (by rw [he, he2]) hpl
  rw [he]
  refine Calls.spliced_cons (thn (h1.run pins s σ H _ I h) fun u1 s1 ⟨v1, H1, I1, r1, hT, hq⟩ => ?_)
  refine Calls.spliced_cons (lam_make3 I1 TB hcode hmT hu hT hdef hcl fun f c' pm' ctv H2 s' I2 md hf hfn hfr' hco => ?_)
  refine Calls.spliced_nil ⟨I2.kIn, ?_⟩
  have rc : codeAny (model X.prog X.w) X.A (.call (.ref g) ⟨[u1, .ref f], []⟩) (CR CX0 X.stack X.prog X.w H2 s' Q E0) s' := by
    subst efd
    refine LamX.run_ofS (N := Ng) (ps := psg) (us := [u1, .ref f]) (vs := [v1, .ref f]) lk hcd Sg hr I2.env0 (hb s' [u1, .ref f] I2.kIn (by simpa using h2.symm)) (.cons r1 (.cons rfl .nil)) h2.symm fun hr' => ?_
    suffices act : _ by
      obtain ⟨t', ht', hq'⟩ := hq f c' H2 s' cdv md hfn hco hr' act
      exact ⟨t', ht'.nox, hq'⟩
    intro i a e te p1 p2 hN hv hd hcd' hp1 hpe hst
    · refine ⟨fun pinsZ sZ σZ HZ QZ IZ hz => ?_⟩
      obtain ⟨hs, hz⟩ := hz
      refine wpAny_Call_Name_kw (thn ((pe_var (pos := p1) (i := i) hN hv hd hcd').run pinsZ sZ σZ HZ (fun v H1 => v = .ref f ∧ H1 = HZ) IZ ⟨.ref f, hs, rfl, rfl⟩) fun u sA ⟨v, HA, IA, rA, q1⟩ => ?_)
      obtain ⟨ev, eH⟩ := q1
      subst ev
      rw [eH] at IA
      obtain rfl : u = Value.ref f := rA
      have at_ : ∀ {sB : Shared} {σB : L2.St} {HB : Hp}, Inv (calCx X Ng qg sg g cdv s' H2) pinsZ σB HB sB → sB.heap.get? f = some (PySem.W.kla_obj "<lambda>" (lamName X) params body scope (cloFrom X.env.cells scope.names []) pm' c' ctv) := fun IB => IB.base.keep f _ hf hfn hfr' (fun z => nomatch (show f ∈ ([] : List Addr) from z))
      refine PySem.W.callWith_F (first := []) ⟨_, _, _, _, at_ IA⟩ ?_ (by rw [hst] <;> rfl) (by rfl)
      rw [hst]
      refine Calls.spliced_cons (thn (hpe.run pinsZ sA σZ HZ _ IA hz) fun w sB ⟨vB, HB, IB, rB, hcB, qB⟩ => Calls.spliced_nil ⟨⟨_, _, _, _, at_ IB⟩, ?_⟩)
      have rl : codeAny (model X.prog X.w) (calCx X Ng qg sg g cdv s' H2).A (.call (.ref f) ⟨[w], []⟩) (CR CX0 (calCx X Ng qg sg g cdv s' H2).stack X.prog X.w HB sB QZ E0) sB :=
        run_lam (fs := frs X.stack) (us := [w]) (vs := [vB]) (k := k) I2 (at_ IB) cp S (hbind _ _ _ _ _ _) (by simpa using hp1.symm) IB.env0 IB.base hcB (.cons rB .nil) hr' (fun hrl => hbody _ _ _ _ _ _ _ hrl) qB
      show wpAny _ _ (call (.ref f) [w]) _ _ _
      refine wpAny_call (codeAny_mono rl fun r sC hq2 => ?_)
      cases r with
      | error e => exact (show False from hq2).elim
      | ok fl =>
        cases fl with
        | ret u => exact IB.after hq2
        | next => exact False.elim hq2
        | brk => exact False.elim hq2
        | cont => exact False.elim hq2
  refine wpAny_call (codeAny_mono rc fun r s2 hq => ?_)
  cases r with
  | error e => exact (show False from hq).elim
  | ok fl =>
    cases fl with
    | ret u => exact I2.after hq
    | next => exact False.elim hq
    | brk => exact False.elim hq
    | cont => exact False.elim hq
def lamL (n : Nat) (cs : Rho) (db : DTE) : LamD := fun xs P => db (rhoF n xs cs) fun z _ => P z
def dLamC (js : List Nat) (nNs nNg : Nat) (d1 db : DTE) (G : D → LamD → DTS) : DTE := fun ρ P => d1 ρ fun x1 ρ1 => ∀ x, G x (lamL nNs (capSl ρ1 js) db) { nx := fun _ => P .non ρ1, rt := fun z _ => noA z = true ∧ P z ρ1 } (rho0 nNg [x1, x])
theorem de_lamC {x qg a : Str} {pg : Arguments} {bg : List Stmt} {sg : Scope} {dvs : List V} {kws : List (Str × V)} {g c P : Addr} {fd : FuncData} {k : Nat} {Ng psg Ns ps fr : List Str} {js : List Nat} {params : Arguments} {body : Expr} {scope : Scope} {G : D → LamD → DTS}
    (hg : Gl X x) (hm : X.mg x = some (.ref g)) (Fd : FunD X.K qg qg pg bg sg dvs kws g fd) (hb : L2.Binds X.K fd psg []) (Sg : FnScope Ng psg sg) (h2 : psg.length = 2) (hTk : TakesF X Ng qg sg g bg (k + 1) 1 a G) (hNa : Ng[1]? = some a) (hva : Vis sg a)
    (TB : TabB X.base X.mg c P) (hcode : X.env.code = .ref c) (hmT : (P, lamName X) ∈ TabsT.T) (hu : ∀ p ∈ TabsT.T, p.1 = P → p.2 = lamName X) (hr : Room (k + 2) X.A)
    (hdef : defaultsOf params X.env = ([], [])) (hfree : ∀ y ∈ scope.names, y.2 = .free → X.env.scope.names.lookup y.1 = some .cell ∨ X.env.scope.names.lookup y.1 = some .free) (hfr : ∀ y ∈ fr, (y, NameKind.free) ∈ scope.names) (hjs : js.map (fun j => X.N[j]?) = fr.map some)
    (S : NScope Ns ps fr scope) (hp1 : ps.length = 1) (hbind : ∀ (q : Str) (cl : List (Str × Addr)) (pm cv ctv u : Value), bindArgs (PySem.W.kla_fn "<lambda>" q params body scope cl pm cv ctv) ⟨[u], []⟩ = pure (ps.zip [u]))
    (h1 : DE X e1 t1 d1) (hbody : ∀ (A : Around) (outer : List Env) (s : Shared) (H : Hp) (E : XK) (f c' : Addr), Room k (A.deeper (envF (lamF X params scope c') f s.heap.objs.size)) → DE (ncx CX0 X.prog X.w X.K X.mg X.base Ns (lamF X params scope c') f A outer s H E) body tb db)
    (hdb : (x == ("__debug__" : Str)) = false := by decide) (hda : (a == ("__debug__" : Str)) = false := by decide) (hdc : (a == ("__classdict__" : Str)) = false := by decide) (hng : 2 ≤ Ng.length := by decide)
    (he : starEach [e1, .Lambda params body scope lpos] X.env = [(false, eval e1 X.env), (false, eval (.Lambda params body scope lpos) X.env)] := by rfl)
    (he2 : starEach [.Lambda params body scope lpos] X.env = [(false, eval (.Lambda params body scope lpos) X.env)] := by rfl) (hpl : (backTo pos (starEach [.Lambda params body scope lpos] X.env)).any (·.1) = false := by rfl) :
    DE X (.Call (.Name x p) [e1, .Lambda params body scope lpos] [] pos) (tLamC X Ng qg sg g bg Ns ps js (k + 1) tb t1) (dLamC js Ns.length Ng.length d1 db G) :=
  ⟨pe_lamC hg hm Fd hb Sg h2 TB hcode hmT hu hr hdef hfree hfr hjs S hbind h1.pe (fun A o s H E f c' hr' => (hbody A o s H E f c' hr').pe) hdb he he2 hpl, fun N F H σ ρ P Q R q kk => by
    refine h1.le N F H σ ρ _ _ R q fun x1 v1 F1 H1 ρ1 q1 s1 R1 r1 => ⟨R1.tb, fun f c' H2 s' cdg md hfn hc hrk act => ?_⟩
    have st0 := md.stp R1.sub
    have hF1 : ∀ o, F1 c' = some o → o = CodeO c' (lamName X) := fun o e => by
      rcases R1.sub c' o e with ⟨z, nt⟩ | ⟨_, ob, z⟩
      · have := md.ext _ _ z nt
        rw [hc] at this
        exact (Option.some.inj this).symm
      · have := md.ext _ _ z (fun _ y => by cases y)
        rw [hc] at this
        unfold CodeO at this
        cases this
    let F2 : Hp := upd F1 c' (CodeO c' (lamName X))
    have sm : Same F1 F2 := fun b o e => by
      by_cases hb : b = c'
      · subst hb
        rw [hF1 o e]
        exact upd_same
      · show upd F1 c' _ b = _
        rw [upd_ne hb]; exact e
    have sb2 : Sub F2 H2 := fun b o e => by
      have e : upd F1 c' (CodeO c' (lamName X)) b = some o := e
      by_cases hb : b = c'
      · subst hb
        rw [upd_same] at e
        cases e
        exact .inl ⟨hc, fun ps => codeO_ne ps⟩
      · rw [upd_ne hb] at e
        exact st0.sub b o e
    obtain ⟨t, ht⟩ := hTk cdg s' H2 (lamR F1 f c' (lamName X)) (lamL Ns.length (capSl ρ1 js) db) hrk fun e te ue p1 p2 hde hst => ⟨_, act 1 a e te p1 p2 hNa hva hda hdc hp1 hde.pe hst, fun N' F' H' σZ ρZ PZ QZ RZ qz kz => by
      obtain ⟨hx, qz⟩ := qz
      obtain ⟨v, ev, a0, e0, hr0⟩ := RZ.shared hx
      obtain ⟨ea, hcF, sF⟩ := hr0 F' (.refl _)
      subst ea e0
      refine ⟨ev, ?_⟩
      refine hde.le N' F' H' σZ ρZ _ _ RZ qz fun y w F3 H3 ρ3 q3 s3 R3 r3 => ?_
      have hc3 : H3 c' = some (CodeO c' (lamName X)) := by
        rcases R3.sub c' _ (s3 _ _ hcF) with ⟨z, _⟩ | ⟨z, _⟩
        · exact z
        · unfold CodeO at z; cases z
      refine ⟨hc3, ?_⟩
      obtain ⟨A0, o0, sx, E1, f1, hrb⟩ : ∃ (A : Around) (o : List Env) (s : Shared) (E : XK) (f : Addr), Room k (A.deeper (envF (lamF X params scope c') f s.heap.objs.size)) := ⟨_, [], s', E0, g, hrk.deeper _⟩
      have Rb := rel_startF (Ns := Ns) (js := js) (xs := [y]) (vs := [w]) R1 (sF.trans s3) R3.tb R3.sub (.one r3)
      refine (hbody A0 o0 sx H3 E1 f1 c' hrb).le ⟨F3, H3, []⟩ F3 H3 _ _ (fun z _ => PZ z ρ3) QZ Rb q3 fun z u F4 H4 ρ4 p4 s4 R4 r4 => ?_
      exact kz z u F4 H4 ρ3 p4 (s3.trans s4) (R3.step R4.stp) r4⟩
    refine ⟨t, ht.ps, ?_⟩
    have hl : Ng.length = (L2.start Ng [v1, .ref f]).length := start_len hng
    have rx : Rep X.kw F2 (lamR F1 f c' (lamName X)) (.ref f) := ⟨f, rfl, fun F' s => ⟨rfl, s _ _ upd_same, sm.trans s⟩⟩
    have R2 := rel_start (K := X.kw) (Ns := Ng) md.tb sb2 (.cons (r1.mono sm) (.one rx))
    have fin : ∀ (z : D) (v : V) (F' H' : Hp) (σ' : L2.St) (ρ' : Rho), noA z = true → P z ρ1 → RelS X.kw ⟨F2, H2, []⟩ F' H' σ' ρ' → Rep X.kw F' z v → Q v H' := by
      intro z v F' H' σ' ρ' ha p R' rz
      have st := R'.stp
      classical
      let F4 : Hp := fun b => if b = c' ∧ F1 c' = none then none else F' b
      have h4 : ∀ b, ¬ (b = c' ∧ F1 c' = none) → F4 b = F' b := fun b hb => if_neg hb
      have st4 : Stp F1 H2 F4 H' := ⟨st.hh, fun b o e => by
          rw [h4 b fun z => by rw [z.1, z.2] at e; cases e]
          exact st.ff _ _ (sm _ _ e), fun b o e => by
          by_cases hb : b = c' ∧ F1 c' = none
          · rw [show F4 b = none from if_pos hb] at e; cases e
          · rw [h4 b hb] at e; exact st.sub b o e, fun b o e => by
          by_cases hb : b = c' ∧ F1 c' = none
          · rw [show F4 b = none from if_pos hb] at e; cases e
          · rw [h4 b hb] at e
            refine (st.new b o e).imp (fun z => ?_) id
            have z : upd F1 c' (CodeO c' (lamName X)) b = some o := z
            by_cases hbc : b = c'
            · subst hbc
              rw [upd_same] at z
              cases z
              cases e5 : F1 b with
              | none => exact absurd ⟨rfl, e5⟩ hb
              | some o5 => rw [hF1 o5 e5]
            · rw [upd_ne hbc] at z; exact z, st.fz, st.nn, st.tb, st.tt⟩
      have st5 := st0.trans st4
      refine kk z v F4 H' ρ1 p (s1.trans st5.ff) (R1.step st5) (rep_delA (fun b o e nc => ?_) ha rz)
      rw [h4 b fun z => ?_]
      · exact e
      · have : F' c' = some (CodeO c' (lamName X)) := st.ff _ _ upd_same
        rw [z.1, this] at e
        exact nc _ _ (Option.some.inj e).symm
    exact ht.ls ⟨F2, H2, []⟩ F2 H2 _ _ _ _ R2 hl (q1 _) ⟨fun F' H' σ' ρ' p s R' _ => fin .non .non F' H' σ' ρ' rfl p R' rfl, fun z v F' H' σ' ρ' p s R' r => fin z v F' H' σ' ρ' p.1 p.2 R' r, fun _ _ _ _ p => p.elim, fun _ _ _ _ p => p.elim⟩⟩
end
end Dc

namespace Dc
open PySem PySem.Spec
open PyProof.Rows L2
variable [TabsT]

/-! ### the draws' tape: a dict with a list of large numbers, what is left of one, all cells, a turn; told as one thing that may be any such -/
def kLarge : Key := .inr (Str.ofString "large")
def kRest : Key := .inr (Str.ofString "rest")
def kCells : Key := .inr (Str.ofString "cells")
def kTurn : Key := .inr (Str.ofString "turn")
def tapeKs : List Key := [kLarge, kRest, kCells, kTurn]
def tapeVs (l c : Addr) (r t : Int) : List V := [.ref l, .int r, .ref c, .int t]
def nat0 (ns : List Int) : Prop := ∀ n ∈ ns, 0 ≤ n
def TapeO (P : Program) (w : World) (a l c : Addr) : HO := .ext fun h => ∃ r t : Int, 0 ≤ r ∧ 0 ≤ t ∧ ObjOk P w (fun _ => none) h a (.dK (tapeKs.zip (tapeVs l c r t)))
def PoolO (P : Program) (w : World) (l : Addr) : HO := .ext fun h => ∃ ns : List Int, nat0 ns ∧ ObjOk P w (fun _ => none) h l (.lst (ns.map V.int))
theorem ext_nc {φ : Heap → Prop} {a : Addr} (h : ∀ hp, φ hp → ∃ o, hp.get? a = some o ∧ ∀ vs, o.data ≠ .fields vs) : NC (.ext φ) := fun c q z => by
  unfold LamX.CodeO at z
  have e := HO.ext.inj z
  let ob : Obj := { cls := .none, data := .fields #[.none, .str q 0] }
  let hp : Heap := ⟨Array.replicate (max a c + 1) ob, default⟩
  have g : ∀ b, b ≤ max a c → hp.get? b = some ob := fun b hb => by
    unfold Heap.get?
    have hs : hp.objs[b]? = some ob := by
      show (Array.replicate (max a c + 1) ob)[b]? = some ob
      rw [Array.getElem?_replicate, if_pos (Nat.lt_succ_of_le hb)]
    rw [hs]
  have hc : ∃ (oc : Obj) (vs : Array Value) (t : Tok), hp.get? c = some oc ∧ oc.data = .fields vs ∧ vs[1]? = some (.str q t) := ⟨ob, _, 0, g c (Nat.le_max_right _ _), rfl, rfl⟩
  rw [← congrFun e hp] at hc
  obtain ⟨o, ho, hd⟩ := h hp hc
  rw [g a (Nat.le_max_left _ _)] at ho
  cases ho
  exact hd _ rfl
section
variable {P : Program} {w : World} {a l c : Addr}
theorem tape_nc : NC (TapeO P w a l c) := ext_nc fun hp ⟨r, t, _, _, _, _, vs, _, o, es, ep, ho, _, hd, _⟩ => ⟨o, ho, fun v z => by rw [hd] at z; cases z⟩
theorem pool_nc : NC (PoolO P w l) := ext_nc fun hp ⟨ns, _, _, its, n, _, e⟩ => ⟨_, e, fun v z => by cases z⟩
theorem tape_nt : NT (TapeO P w a l c) := fun _ z => by unfold TapeO at z; cases z
theorem pool_nt : NT (PoolO P w l) := fun _ z => by unfold PoolO at z; cases z
theorem tape_nf : ∀ ob u, TapeO P w a l c ≠ .frz ob u := fun _ _ z => by unfold TapeO at z; cases z
theorem pool_nf : ∀ ob u, PoolO P w l ≠ .frz ob u := fun _ _ z => by unfold PoolO at z; cases z
theorem dk_any {H H' : Hp} {h : Heap} {kvs : List (Key × V)} (x : ObjOk P w H h a (.dK kvs)) : ObjOk P w H' h a (.dK kvs) := x
theorem lst_any {H H' : Hp} {h : Heap} {xs : List V} (x : ObjOk P w H h a (.lst xs)) : ObjOk P w H' h a (.lst xs) := x
theorem tape_ok {H : Hp} {h : Heap} {r t : Int} (hr : 0 ≤ r) (ht : 0 ≤ t) (x : ObjOk P w H h a (.dK (tapeKs.zip (tapeVs l c r t)))) : ObjOk P w H h a (TapeO P w a l c) := by
  refine ⟨⟨r, t, hr, ht, dk_any x⟩, ?_, fun h1 h2 ⟨r, t, q1, q2, q3⟩ k => ⟨r, t, q1, q2, q3.stay (fun b u hb e => ?_) (fun b e => by cases e) fun b xs e => by cases e⟩⟩
  · obtain ⟨_, _, _, _, o, _, _, e, _⟩ := x
    exact ⟨o, e⟩
  · rcases hb with hb | hb
    · rw [hb] at e ⊢; exact k u e
    · cases hb
theorem pool_ok {H : Hp} {h : Heap} {ns : List Int} (hn : nat0 ns) (x : ObjOk P w H h l (.lst (ns.map V.int))) : ObjOk P w H h l (PoolO P w l) := by
  refine ⟨⟨ns, hn, lst_any x⟩, ?_, fun h1 h2 ⟨ns, q1, q3⟩ k => ⟨ns, q1, q3.stay (fun b u hb e => ?_) (fun b e => by cases e) fun b xs e => by cases e⟩⟩
  · obtain ⟨_, _, _, _, e⟩ := x
    exact ⟨_, e⟩
  · rcases hb with hb | hb
    · rw [hb] at e ⊢; exact k u e
    · cases hb
end
section
variable {X : Cx} {pins : List (Addr × Obj)} {σ : L2.St} {H : Hp} {s : Shared} {a l c : Addr}
/-- told otherwise, the heap as it is -/
theorem Inv.retell {x : Addr} {o o' : HO} (I : Inv X pins σ H s) (h : H x = some o) (mu : Mut (some o)) (he : ∃ ob, s.heap.get? x = some ob) (new : ObjOk X.prog X.w (upd H x o') s.heap x o') : Inv X pins σ (upd H x o') s :=
  I.write (x := x) (e := x) (t' := s.toks) (h' := s.heap) (by rw [h]; exact mu) (.inl rfl) (fun b v _ q => q) he new
theorem Inv.tapeOpen (I : Inv X pins σ H s) (h : H a = some (TapeO X.prog X.w a l c)) : ∃ r t : Int, 0 ≤ r ∧ 0 ≤ t ∧ Inv X pins σ (upd H a (.dK (tapeKs.zip (tapeVs l c r t)))) s := by
  obtain ⟨⟨r, t, hr, ht, x⟩, he, _⟩ := (show ObjOk X.prog X.w H s.heap a (TapeO X.prog X.w a l c) from I.hok a _ h)
  exact ⟨r, t, hr, ht, Inv.retell I h trivial he (dk_any x)⟩
theorem Inv.tapeClose {r t : Int} (I : Inv X pins σ H s) (h : H a = some (.dK (tapeKs.zip (tapeVs l c r t)))) (hr : 0 ≤ r) (ht : 0 ≤ t) : Inv X pins σ (upd H a (TapeO X.prog X.w a l c)) s := by
  have x := I.hok a _ h
  have x' := x
  obtain ⟨_, _, _, _, o, _, _, e, _⟩ := x
  exact Inv.retell I h trivial ⟨o, e⟩ (tape_ok hr ht (dk_any x'))
theorem Inv.poolOpen (I : Inv X pins σ H s) (h : H l = some (PoolO X.prog X.w l)) : ∃ ns, nat0 ns ∧ Inv X pins σ (upd H l (.lst (ns.map V.int))) s := by
  obtain ⟨⟨ns, hn, x⟩, he, _⟩ := (show ObjOk X.prog X.w H s.heap l (PoolO X.prog X.w l) from I.hok l _ h)
  exact ⟨ns, hn, Inv.retell I h trivial he (lst_any x)⟩
theorem Inv.poolClose {ns : List Int} (I : Inv X pins σ H s) (h : H l = some (.lst (ns.map V.int))) (hn : nat0 ns) : Inv X pins σ (upd H l (PoolO X.prog X.w l)) s := by
  have x := I.hok l _ h
  have x' := x
  obtain ⟨_, _, _, _, e⟩ := x
  exact Inv.retell I h trivial ⟨_, e⟩ (pool_ok hn (lst_any x'))
end
/-! the readings -/
section
variable {X : Cx} {e : Expr} {t : TE} {st : List Stmt} {u : TS}
def tPoolOpen (X : Cx) (t : TE) : TE := fun σ H Q => t σ H fun x H1 => ∃ l, x = .ref l ∧ H1 l = some (PoolO X.prog X.w l) ∧ ∀ ns : List Int, nat0 ns → Q x (upd H1 l (.lst (ns.map V.int)))
def tPoolClose (X : Cx) (t : TE) : TE := fun σ H Q => t σ H fun x H1 => ∃ l, ∃ ns : List Int, nat0 ns ∧ H1 l = some (.lst (ns.map V.int)) ∧ Q x (upd H1 l (PoolO X.prog X.w l))
def tPoolPre (X : Cx) (t : TE) : TE := fun σ H Q => ∃ l, ∃ ns : List Int, nat0 ns ∧ H l = some (.lst (ns.map V.int)) ∧ t σ (upd H l (PoolO X.prog X.w l)) Q
theorem pe_poolOpen (h : PE X e t) : PE X e (tPoolOpen X t) := ⟨fun pins s σ H Q I q => thn (h.run pins s σ H _ I q) fun v s1 ⟨x, H1, I1, r, l, ex, hl, q1⟩ => by
  obtain ⟨ns, hn, I2⟩ := Inv.poolOpen I1 hl
  exact ⟨x, _, I2, r, q1 ns hn⟩⟩
theorem pe_poolClose (h : PE X e t) : PE X e (tPoolClose X t) := ⟨fun pins s σ H Q I q => thn (h.run pins s σ H _ I q) fun v s1 ⟨x, H1, I1, r, l, ns, hn, hl, q1⟩ => ⟨x, _, Inv.poolClose I1 hl hn, r, q1⟩⟩
theorem pe_poolPre (h : PE X e t) : PE X e (tPoolPre X t) := ⟨fun pins s σ H Q I ⟨l, ns, hn, hl, q⟩ => h.run pins s σ _ _ (Inv.poolClose I hl hn) q⟩
/-- the tape stands open in a body -/
def closeE (X : Cx) (a l c : Addr) (E : Ends) : Ends := ⟨fun σ H => ∃ r t : Int, 0 ≤ r ∧ 0 ≤ t ∧ H a = some (.dK (tapeKs.zip (tapeVs l c r t))) ∧ E.nx σ (upd H a (TapeO X.prog X.w a l c)), fun v H => ∃ r t : Int, 0 ≤ r ∧ 0 ≤ t ∧ H a = some (.dK (tapeKs.zip (tapeVs l c r t))) ∧ E.rt v (upd H a (TapeO X.prog X.w a l c)), fun _ _ => False, fun _ _ => False⟩
def tTapeIn (X : Cx) (u : TS) : TS := fun E σ H => ∃ a l c, H a = some (TapeO X.prog X.w a l c) ∧ ∀ r t : Int, 0 ≤ r → 0 ≤ t → u (closeE X a l c E) σ (upd H a (.dK (tapeKs.zip (tapeVs l c r t))))
theorem pss_tapeIn (h : PSs X st u) : PSs X st (tTapeIn X u) := ⟨fun pins s σ H E I ⟨a, l, c, ha, q⟩ => by
  obtain ⟨r, t, hr, ht, I1⟩ := Inv.tapeOpen I ha
  refine thn (h.run pins s σ _ _ I1 (q r t hr ht)) fun f s1 q => ?_
  cases f with
  | next => obtain ⟨σ', H', I2, r', t', h1, h2, h3, q⟩ := q; exact ⟨σ', _, Inv.tapeClose I2 h3 h1 h2, q⟩
  | ret v => obtain ⟨x, σ', H', I2, rv, r', t', h1, h2, h3, q⟩ := q; exact ⟨x, σ', _, Inv.tapeClose I2 h3 h1 h2, rv, q⟩
  | brk => obtain ⟨_, _, _, q⟩ := q; exact q.elim
  | cont => obtain ⟨_, _, _, q⟩ := q; exact q.elim⟩
end
end Dc

namespace Dc
open PySem PySem.Spec
open PyProof.Rows L2
variable [TabsT]

def poolD (P : Program) (w : World) (l : Addr) : D := .ab fun F b => b = l ∧ F l = some (PoolO P w l)
def cellsD (K : PySem.W.Frag) (c : Addr) (cs : List Int) : D := .ab fun F b => b = c ∧ SqL K F c (cs.map V.int)
/-- the tape, open -/
def tapeX (P : Program) (K : KW) (l c : Addr) (cs : List Int) (r t : Int) : D := .dk tapeKs [poolD P K.w l, .int r, cellsD K.K c cs, .int t]
/-- the tape -/
def tapeD (P : Program) (K : KW) : D := .ab fun F a => ∃ l c cs, a ≠ l ∧ F a = some (TapeO P K.w a l c) ∧ F l = some (PoolO P K.w l) ∧ SqL K.K F c (cs.map V.int) ∧ nat0 cs
theorem reps_any {K : KW} {F F' : Hp} : ∀ {ds : List D} {vs : List V}, ds.all isFlat = true → Reps K F ds vs → Reps K F' ds vs
  | [], _, _, r => r
  | d :: ds, _, h, ⟨v, r, e, h1, h2⟩ => by
    rw [List.all_cons, Bool.and_eq_true] at h
    refine ⟨v, r, e, ?_, reps_any h.2 h2⟩
    rw [flat_of h.1 h1]
    exact rep_flat h.1
section
variable {P : Program} {w : World} {K : PySem.W.Frag} {mg : Str → Option Value} {base : Heap}
theorem fn_tape {x qual : Str} {params : Arguments} {body : List Stmt} {scope : Scope} {dvs : List V} {kws : List (Str × V)} {f : Addr} {fd : FuncData} {Ns ps : List Str} {k : Nat} {S : SD} {d : DTS} (Fd : FunD K x qual params body scope dvs kws f fd) (Sc : FnScope Ns ps scope)
    (len : ∀ ds Q, S ds Q → ds.length = ps.length) (hn : ps.length ≤ Ns.length) (hsh : ∀ ds Q, S ds Q → ∃ es, ds = tapeD P ⟨K, w⟩ :: es ∧ es.all isFlat = true)
    (hbody : ∀ (cdv : Value) (A : Around) (outer : List Env) (s : Shared) (H : Hp) (E : XK), Room k (A.deeper (envOfC qual scope s.heap.objs.size f cdv)) → ∃ t, DSs (cxOf CX0 P w K mg base Ns qual scope f cdv A outer s H E).nox body t d)
    (rd : ∀ es Q, S (tapeD P ⟨K, w⟩ :: es) Q → ∀ (a l c : Addr) (cs : List Int) (r t : Int), nat0 cs → 0 ≤ r → 0 ≤ t →
      d { nx := fun ρ => ∃ r' t' : Int, 0 ≤ r' ∧ 0 ≤ t' ∧ ρ[0]? = some (.my a (tapeX P ⟨K, w⟩ l c cs r' t')) ∧ Q .non, rt := fun z ρ => ∃ r' t' : Int, 0 ≤ r' ∧ 0 ≤ t' ∧ ρ[0]? = some (.my a (tapeX P ⟨K, w⟩ l c cs r' t')) ∧ Q z } (rho1 Ns.length a (tapeX P ⟨K, w⟩ l c cs r t) es)) :
    FnOk P w K mg base CX0 (k + 1) f fd ps (spD ⟨K, w⟩ S) := by
  refine Fd.ok Sc (fun vs H Q E h => ?_) (fun cdv A outer s H vs Q E hr h => ?_)
  · obtain ⟨F, ds, P1, _, _, r, hS, _⟩ := h
    rw [← r.length]
    exact len ds P1 hS
  · obtain ⟨F, ds, P1, tb, sb, rr, hS, kk⟩ := h
    obtain ⟨es, ed, hfl⟩ := hsh ds P1 hS
    subst ed
    obtain ⟨v0, vr, ev, ⟨a, ea, hra⟩, r2⟩ := rr
    subst ea ev
    obtain ⟨l, c, cs, hal, hFa, hFl, hFc, hcs⟩ := hra F (.refl _)
    have hHa : H a = some (TapeO P w a l c) := sb.ext hFa
    obtain ⟨t, ht⟩ := hbody cdv A outer s H E hr
    refine ⟨_, pss_tapeIn (X := (cxOf CX0 P w K mg base Ns qual scope f cdv A outer s H E).nox) ht.ps |>.nox, a, l, c, hHa, fun r0 t0 hr0 ht0 => ?_⟩
    let F0 : Hp := fun b => if b = a then none else F b
    let H1 : Hp := upd H a (.dK (tapeKs.zip (tapeVs l c r0 t0)))
    have f0 : ∀ b, b ≠ a → F0 b = F b := fun b hb => if_neg hb
    have fa : F0 a = none := if_pos rfl
    have h1 : ∀ b, b ≠ a → H1 b = H b := fun b hb => upd_ne hb
    have sb0 : Sub F0 H1 := fun b o e => by
      by_cases hb : b = a
      · subst hb; rw [fa] at e; cases e
      · rw [f0 b hb] at e; rw [h1 b hb]; exact sb b o e
    have tb1 : LamX.Tabs TabsT.T H1 := tabs_upd tb hHa tape_nt tape_nc
    have sqc : SqL K F0 c (cs.map V.int) := by
      have ne : ∀ o, F c = some o → (∀ φ, o ≠ .ext φ) → F0 c = some o := fun o e n => by
        rw [f0 c fun z => ?_]
        · exact e
        · rw [z, hFa] at e
          exact n _ (Option.some.inj e).symm
      rcases hFc with (q | ⟨ob, q⟩) | q
      · exact .inl (.inl (ne _ q fun _ z => by cases z))
      · exact .inl (.inr ⟨ob, ne _ q fun _ z => by cases z⟩)
      · exact .inr q
    have sh0 : Shape ⟨K, w⟩ F0 a (tapeX P ⟨K, w⟩ l c cs r0 t0) (.dK (tapeKs.zip (tapeVs l c r0 t0))) :=
      ⟨tapeVs l c r0 t0, rfl, rfl, .cons ⟨l, rfl, fun F' s => ⟨rfl, s _ _ (by rw [f0 l (Ne.symm hal)]; exact hFl)⟩⟩ (.cons rfl (.cons ⟨c, rfl, fun F' s => ⟨rfl, Same.seq s sqc⟩⟩ (.one rfl)))⟩
    have hl : (V.ref a :: vr).length ≤ Ns.length := by
      have := len _ P1 hS
      rw [List.length_cons] at this
      rw [List.length_cons, ← r2.length, this]; exact hn
    have R0 := rel_start1 (K := ⟨K, w⟩) (Ns := Ns) tb1 sb0 fa upd_same sh0 (reps_any (F' := F0) hfl r2)
    have fin : ∀ (z : D) (v : V) (F' H' : Hp) (σ' : L2.St) (ρ' : Rho) (r' t' : Int), 0 ≤ r' → 0 ≤ t' → ρ'[0]? = some (.my a (tapeX P ⟨K, w⟩ l c cs r' t')) → P1 z → RelS ⟨K, w⟩ ⟨F0, fun b => if b = a then none else H1 b, []⟩ F' H' σ' ρ' → Rep ⟨K, w⟩ F' z v →
        H' a = some (.dK (tapeKs.zip (tapeVs l c r' t'))) ∧ Q v (upd H' a (TapeO P w a l c)) := by
      intro z v F' H' σ' ρ' r' t' hr' ht' hx p R rz
      obtain ⟨o2, ea2, hH2, sh2, hF2, _⟩ := R.myAt hx
      obtain ⟨vs2, eo, _, u1, w1, e1, ⟨b1, e2, q1⟩, u2, w2, e3, q2, u3, w3, e4, ⟨b3, e5, q3⟩, u4, w4, e6, q4, q5⟩ := sh2
      obtain ⟨e7, _⟩ := q1 F' (.refl _)
      obtain ⟨e8, _⟩ := q3 F' (.refl _)
      subst e7 e8
      have eo' : o2 = .dK (tapeKs.zip (tapeVs b1 b3 r' t')) := by
        rw [eo, e1, e2, e3, e4, e5, e6, show u2 = _ from q2, show u4 = _ from q4, show w4 = _ from q5]
        rfl
      subst eo'
      refine ⟨hH2, ?_⟩
      have oldH : ∀ b o, H b = some o → b ≠ a → NT o → H' b = some o := fun b o e hb nt => by
        rcases R.old b o (by show (if b = a then none else H1 b) = _; rw [if_neg hb, h1 b hb]; exact e) nt with q | ⟨ob, q⟩
        · exact q
        · exact absurd q (by simp)
      refine kk z v (upd F' a (TapeO P w a b1 b3)) (upd H' a (TapeO P w a b1 b3)) p ⟨fun b o e nt => ?_, fun b o e => ?_, fun b o e => ?_, fun b o e => ?_, fun b ob u e => ?_, fun b e => ?_, fun _ => tabs_upd R.tb hH2 (fun _ z => by cases z) (fun _ _ z => by unfold LamX.CodeO at z; cases z), fun b ps e => ?_⟩ (rz.mono (same_upd hF2))
      · by_cases hb : b = a
        · subst hb; rw [hHa] at e; cases e; exact upd_same
        · rw [upd_ne hb]; exact oldH b o e hb nt
      · by_cases hb : b = a
        · subst hb; rw [hFa] at e; cases e; exact upd_same
        · rw [upd_ne hb]; exact R.frz0 b o (by show F0 b = _; rw [f0 b hb]; exact e)
      · by_cases hb : b = a
        · subst hb; rw [upd_same] at e; cases e; exact .inl ⟨upd_same, tape_nt⟩
        · rw [upd_ne hb] at e ⊢; exact R.sub b o e
      · by_cases hb : b = a
        · subst hb; rw [upd_same] at e; cases e; exact .inl hFa
        · rw [upd_ne hb] at e
          rcases R.new b o e with q | q
          · exact .inl (by have q : F0 b = some o := q; rw [f0 b hb] at q; exact q)
          · have q : (if b = a then none else H1 b) = none := q
            rw [if_neg hb, h1 b hb] at q
            exact .inr q
      · by_cases hb : b = a
        · subst hb; rw [upd_same] at e; exact absurd (Option.some.inj e) (tape_nf _ _)
        · rw [upd_ne hb] at e
          rcases R.fz b ob u e with q | q
          · have q : (if b = a then none else H1 b) = some (.frz ob u) := q
            rw [if_neg hb, h1 b hb] at q
            exact q
          · exact absurd q (by simp)
      · have hb : b ≠ a := fun z => by rw [z, upd_same] at e; cases e
        rw [upd_ne hb] at e
        have q : (if b = a then none else H1 b) = none := R.nn b e
        rw [if_neg hb, h1 b hb] at q
        exact q
      · have hb : b ≠ a := fun z => by rw [z, hHa] at e; exact tape_nt _ (Option.some.inj e)
        rw [upd_ne hb]
        exact R.tt b ps (by show (if b = a then none else H1 b) = _; rw [if_neg hb, h1 b hb]; exact e)
    refine ht.ls _ F0 H1 _ _ _ _ R0 (start_len hl) (rd es P1 hS a l c cs r0 t0 hcs hr0 ht0)
      ⟨fun F' H' σ' ρ' ⟨r', t', h2, h3, hx, p⟩ s R _ => ?_, fun z v F' H' σ' ρ' ⟨r', t', h2, h3, hx, p⟩ s R r => ?_, fun _ _ _ _ p => p.elim, fun _ _ _ _ p => p.elim⟩
    · obtain ⟨y1, y2⟩ := fin .non .non F' H' σ' ρ' r' t' h2 h3 hx p R rfl
      exact ⟨r', t', h2, h3, y1, y2⟩
    · obtain ⟨y1, y2⟩ := fin z v F' H' σ' ρ' r' t' h2 h3 hx p R r
      exact ⟨r', t', h2, h3, y1, y2⟩
end
end Dc

namespace Dc
open PySem PySem.Spec
open PyProof.Rows L2
variable [TabsT]

section
variable {K : KW} {N : En} {F H F' H' : Hp} {σ : L2.St} {ρ : Rho}
/-- one's own object changed by a callee -/
theorem RelS.mutate (R : RelS K N F H σ ρ) {i : Nat} {a : Addr} {x x' : D} {o' : HO} (h : ρ[i]? = some (.my a x)) (st : Stp F (upd H a o') F' H') (hF' : F' a = none) (sh' : Shape K F' a x' o') : RelS K N F' H' σ (ρ.set i (.my a x')) := by
  obtain ⟨own, w1, w2⟩ := R.sl
  obtain ⟨o, e, e0, a', u, ea, wa, ha, sh⟩ := w2 i _ h
  rw [e0] at ea
  cases ea
  obtain ⟨q1, q2, q3⟩ := w1 a i wa
  have hl : i < ρ.length := (List.getElem?_eq_some_iff.mp h).1
  have hH' : H' a = some o' := st.hh a o' upd_same sh'.nt
  have nL : ∀ p ∈ N.L, p.1 ≠ a := fun p hp z => by
    have y := (R.lk p hp).2
    rw [z, ha] at y
    cases y
    exact sh.nofrz
  refine ⟨st.sub, R.frz0.trans st.ff, fun b v eb => ?_, fun b v eb nt => ?_, fun b eb => ?_, st.tb (tabs_upd R.tb ha sh.nt sh.nc), fun b ps eb => ?_, fun p hp => ⟨(R.lk p hp).1, st.hh _ _ (by rw [upd_ne (nL p hp)]; exact (R.lk p hp).2) fun _ z => by cases z⟩, fun b ob v eb => ?_, own, fun b j eb => ?_, fun j s es => ?_⟩
  · rcases st.new b v eb with q | q
    · exact R.new b v q
    · have hb : b ≠ a := fun z => by rw [z, upd_same] at q; cases q
      rw [upd_ne hb] at q
      exact .inr (R.nn b q)
  · have hb : b ≠ a := fun z => by rw [z, q2] at eb; cases eb
    rcases R.old b v eb nt with q | q
    · exact .inl (st.hh b v (by rw [upd_ne hb]; exact q) nt)
    · exact .inr q
  · have q := st.nn b eb
    have hb : b ≠ a := fun z => by rw [z, upd_same] at q; cases q
    rw [upd_ne hb] at q
    exact R.nn b q
  · obtain ⟨ps', e'⟩ := tt_upd (o' := o') R.tt ha sh.nt b ps eb
    exact st.tt b ps' e'
  · have q := st.fz b ob v eb
    by_cases hb : b = a
    · subst hb; rw [upd_same] at q; cases q; exact absurd sh' Shape.nofrz
    · rw [upd_ne hb] at q; exact R.fz b ob v q
  · obtain ⟨z1, z2, z3⟩ := w1 b j eb
    by_cases hb : b = a
    · subst hb; exact ⟨hF', z2, by rw [hH']; simp⟩
    · refine ⟨?_, z2, fun z => ?_⟩
      · cases y : F' b with
        | none => rfl
        | some v =>
          rcases st.new b v y with q | q
          · rw [z1] at q; cases q
          · rw [upd_ne hb] at q; exact absurd q z3
      · have q := st.nn b z
        rw [upd_ne hb] at q; exact z3 q
  · by_cases hj : j = i
    · subst hj
      rw [List.getElem?_set_self hl] at es
      cases es
      exact ⟨o, e, e0, a, o', e0, wa, hH', sh'⟩
    · rw [List.getElem?_set_ne (Ne.symm hj)] at es
      obtain ⟨o2, e2, r2⟩ := w2 j s es
      have step : ∀ b v, own b = some j → H b = some v → (∀ d, Shape K F b d v → H' b = some v) := fun b v eb hv d sd => by
        have hb : b ≠ a := fun z => by rw [z, wa] at eb; cases eb; exact hj rfl
        exact st.hh b v (by rw [upd_ne hb]; exact hv) sd.nt
      refine ⟨o2, e2, ?_⟩
      cases s with
      | no => trivial
      | sh d => obtain ⟨v, y1, y2⟩ := r2; exact ⟨v, y1, y2.mono st.ff⟩
      | ow d => obtain ⟨b, v, p1, p2, p3, p4⟩ := r2; exact ⟨b, v, p1, p2, step b v p2 p3 d p4, p4.mono st.ff⟩
      | my _ d => obtain ⟨p0, b, v, p1, p2, p3, p4⟩ := r2; exact ⟨p0, b, v, p1, p2, step b v p2 p3 d p4, p4.mono st.ff⟩
end
section
variable {X : Cx} {pos p p2 : Pos} {e ix : Expr} {te ti : TE} {de di : DTE}
/-- a def that changes its one argument -/
structure KnM (P : Program) (w : World) (K : PySem.W.Frag) (mg : Str → Option Value) (base : Heap) (k : Nat) (x : Str) (S : SM) : Prop where
  ex : ∃ (f : Addr) (fd : FuncData) (ps : List Str) (ds : List Value), FnOk P w K mg base CX0 k f fd ps (spM ⟨K, w⟩ S) ∧ mg x = some (.ref f) ∧ PySem.W.keepIn K (.ref f) = true ∧ Binds K fd ps ds ∧ Vals [] ds
def dCallM (i : Nat) (S : SM) : DTE := fun ρ P => ∃ a x, ρ[i]? = some (.my a x) ∧ S x [] fun z x' => P z (ρ.set i (.my a x'))
theorem de_callM (i : Nat) {x v : Str} {k j : Nat} {S : SM} (c : KnM X.prog X.w X.K X.mg X.base k x S) (hr : Room j X.A) (hk : k ≤ j) (hg : Gl X x) (hN : X.N[i]? = some v := by rfl) (hv : Vis X.env.scope v := by first | exact Or.inl rfl | exact Or.inr (Or.inl rfl) | exact Or.inr (Or.inr rfl))
    (hd : (v == ("__debug__" : Str)) = false := by decide) (hcd : (v == ("__classdict__" : Str)) = false := by decide) (hdb : (x == ("__debug__" : Str)) = false := by decide)
    (he : starEach [.Name v p2] X.env = (false, eval (.Name v p2) X.env) :: starEach [] X.env := by rfl) (hpl : (backTo pos (starEach [] X.env)).any (·.1) = false := by rfl) :
    DE X (.Call (.Name x p) [.Name v p2] [] pos) (tCall (spM X.kw S) [] E0 (tCons (tVar i) tNil)) (dCallM i S) := by
  obtain ⟨f, fd, ps, ds, hf, hm, kp, hb, hvs⟩ := c.ex
  exact ⟨pe_call hf (hr.mono hk) hg hm kp hb hvs pass0 (pa_cons (pe_var hN hv hd hcd) pa_nil he) hdb he hpl, fun N F H σ ρ P Q R q kk => by
    obtain ⟨a, x0, hx, hS⟩ := q
    obtain ⟨o, ea, hH, sh, hF, _⟩ := R.myAt hx
    refine ⟨_, ea, F, a, o, x0, [], [], _, rfl, R.tb, R.sub, hF, hH, sh, rfl, hS, fun z w x' o' F' H' p st hF' sh' rz => ?_⟩
    exact kk z w F' H' _ p st.ff (R.mutate hx st hF' sh') rz⟩
/-- name[index] = value, the dict one's own at a known address -/
def sPutM (i : Nat) (sd : D → D → D → (D → Prop) → Prop) (de di : DTE) : DTS := fun D ρ => de ρ fun z ρ1 => (∃ a x, ρ1[i]? = some (.my a x)) ∧ di ρ1 fun y ρ2 => ∃ a x, ρ2[i]? = some (.my a x) ∧ sd x y z fun x' => D.nx (ρ2.set i (.my a x'))
theorem ds_putM {r : TSet} {sd : D → D → D → (D → Prop) → Prop} (i : Nat) {x : Str} (hs : PSet X r) (l : LSet X.kw r sd) (h : DE X e te de) (hi : DE X ix ti di) (hN : X.N[i]? = some x := by rfl) (hv : Vis X.env.scope x := by first | exact Or.inl rfl | exact Or.inr (Or.inl rfl) | exact Or.inr (Or.inr rfl)) (hd : (x == ("__debug__" : Str)) = false := by decide)
    (hcd : (x == ("__classdict__" : Str)) = false := by decide)
    (ha : ∀ v, assign (.Subscript (.Name x p) ix p2) X.env v = (do
      let ov ← holding [v] (eval (.Name x p) X.env)
      let iv ← holding [v, ov] (eval ix X.env)
      standAt p2
      holding [v, ov, iv] (setItem ov iv v)
      release [v, ov, iv] []) := by intro _; rfl)
    (hsw : swapsWithSole [.Subscript (.Name x p) ix p2] e pos.line X.env = pure false := by rfl) (hw : swappedStores [.Subscript (.Name x p) ix p2] e X.env = pure none := by rfl)
    (h1 : (assignEach [.Subscript (.Name x p) ix p2] X.env).map (·.2) = [assign (.Subscript (.Name x p) ix p2) X.env] := by rfl) :
    DS X (.Assign [.Subscript (.Name x p) ix p2] e pos) (tAsg te (gSub (tVar i) ti r)) (sPutM i sd de di) :=
  ⟨ps_asg h.pe (pg_sub (pe_var hN hv hd hcd) hi.pe hs ha) hsw hw h1, fun N F H σ ρ D E R hl q k => by
    refine h.le N F H σ ρ _ _ R q fun z w F1 H1 ρ1 q1 s1 R1 r1 => ?_
    obtain ⟨⟨a0, x0, hx0⟩, q1⟩ := q1
    obtain ⟨_, ea, _⟩ := R1.myAt hx0
    refine ⟨_, ea, ?_⟩
    refine hi.le N F1 H1 σ ρ1 _ _ R1 q1 fun y u F2 H2 ρ2 q2 s2 R2 r2 => ?_
    obtain ⟨a, x, hx, q2⟩ := q2
    obtain ⟨o, ea2, hH, sh, _, fin⟩ := R2.myAt hx
    rw [ea] at ea2
    cases ea2
    exact l F2 H2 a0 o x y z u w _ _ R2.sub hH sh r2 (r1.mono s2) q2 fun x' o' p sh' => k.nx F2 _ σ _ p (s1.trans s2) (fin x' o' sh') rfl⟩
/-- the cells, one by one -/
def dCells (K : PySem.W.Frag) (de : DTE) : DTI := fun ρ P => de ρ fun x ρ1 => ∃ c cs, x = cellsD K c cs ∧ P (cs.map D.int) ρ1
theorem di_cells {tg : Expr} (h : DE X e te de) : DI X tg e (iList X.K te) (dCells X.K de) := ⟨pi_list h.pe, fun N F H σ ρ P R RS q k => by
  refine h.le N F H σ ρ _ _ RS q fun x v F1 H1 ρ1 q1 s1 R1 r1 => ?_
  obtain ⟨c, cs, ex, q1⟩ := q1
  subst ex
  obtain ⟨a, e1, hr⟩ := r1
  obtain ⟨e2, hq⟩ := hr F1 (.refl _)
  subst e2
  exact ⟨a, e1, ⟨_, R1.sub.sqL hq⟩, k _ F1 H1 ρ1 _ q1 s1 R1 (itOk_list hq (reps_of_ints cs))⟩⟩
end

/-! ### the next large number: from the list of them, or blended -/
theorem ints_lay : ∀ ns : List Int, PyData.canLayAll0 (ns.map .int) = true
  | [] => rfl
  | n :: ns => by
    rw [List.map_cons]
    unfold PyData.canLayAll0
    rw [ints_lay ns]
    rfl
theorem ints_depth : ∀ ns : List Int, PyData.depthAll (ns.map .int) = 0 := PySem.W.depth_ints
theorem ints_shaped (ns : List Int) : SeqAt.shaped (.list (ns.map .int)) = true := by
  unfold SeqAt.shaped
  rw [show PyData.canLay0 (.list (ns.map .int)) = true from ints_lay ns]
  have : PyData.depth (.list (ns.map .int)) ≤ 64 := by
    unfold PyData.depth
    rw [ints_depth]
    decide
  simp [this]
theorem ints_dp {K : PySem.W.Frag} {H : Hp} : ∀ ns : List Int, DpAll K H (ns.map V.int) (ns.map .int)
  | [] => .nil
  | n :: ns => .cons (.int n) (ints_dp ns)
theorem list_eqv {ns : List Int} : PyData.eqv (.list (ns.map .int)) (.list []) = decide (ns = []) := by
  cases ns <;> rfl
section
variable {X : Cx} {pos p1 p2 p3 p4 p5 p6 p7 p8 p9 p10 : Pos} {b : Expr} {tb : TE} {db : DTE} {x : Str} {j1 j2 j3 : Bool}
abbrev sLarge : Str := Str.ofString "large"
def tPoolAt (i : Nat) : TE := tOp rDK (tVar i) (tC (.str sLarge))
def tRefill (X : Cx) (i : Nat) (tb : TE) : TE := tIf (tTest (tOp (rNeD X.K) (tPoolOpen X (tPoolAt i)) (tLst tNil))) (tPoolClose X (tBM X.K "list" rPopAt (tPoolAt i) (tCons (tC (.int 0)) tNil))) (tPoolPre X tb)
def dRefill (X : Cx) (i : Nat) (db : DTE) : DTE := fun ρ P => (∃ a l c cs r t, ρ[i]? = some (.my a (tapeX X.prog X.kw l c cs r t))) ∧ (∀ n : Int, 0 ≤ n → P (.int n) ρ) ∧ db ρ P
theorem de_refill {aty1 aty2 : Expr} {lpos cpos apos zpos ps1 ps2 : Pos} {jz : Nat} (i : Nat) (hu : X.A.units + 64 < cLine) (hA1 : PE X aty1 (tPoolAt i)) (hA2 : PE X aty2 (tPoolAt i)) (hB : DE X b tb db)
    (hm : behindInMarks .NotEq (.List [] lpos) = false := by first | exact nomark _ | rfl)
    (hbase : attributeBase aty2 "pop" X.env (eval aty2 X.env) = eval aty2 X.env := by rfl)
    (hfew : ((backTo cpos (starEach [.Constant (.int 0) jz zpos] X.env)).all (fun x => !x.1) && (backToKw cpos (keywordEach [] X.env)).all (fun x => x.1.isSome)
      && decide (([.Constant (.int 0) jz zpos] : List Expr).length + ([] : List Keyword).length + (if ([] : List Keyword).isEmpty then 0 else 1) < 30)) = true := by rfl)
    (hline : (apos.endLine == cpos.line) = true := by rfl) (hs : starEach [.Constant (.int 0) jz zpos] X.env = (false, eval (.Constant (.int 0) jz zpos) X.env) :: starEach [] X.env := by rfl) (hplain : (backTo cpos (starEach [] X.env)).any (·.1) = false := by rfl) :
    DE X (.IfExp (.Compare aty1 [.NotEq] [.List [] lpos] ps1) (.Call (.Attribute aty2 "pop" apos) [.Constant (.int 0) jz zpos] [] cpos) b pos) (tRefill X i tb) (dRefill X i db) :=
  ⟨pe_ifExp (pt_cmpR (op_neD hu) (pe_poolOpen hA1) (pe_lst pa_nil) hm) (pe_poolClose (pe_bm PySem.F.plainAttrs_list PySem.F.slot_list_pop PySem.F.type_list_pop mt_popAt hA2 (pa_cons pe_int pa_nil hs) hbase hfew hline hs hplain)) (pe_poolPre hB.pe), fun N F H σ ρ P Q R q kk => by
    obtain ⟨⟨a, l, c, cs, r, t, hx⟩, hn, hb⟩ := q
    obtain ⟨o, ea, hHa, sh, hF, _⟩ := R.myAt hx
    obtain ⟨vs2, eo, _, u1, w1, e1, ⟨b1, e2, q1⟩, _⟩ := sh
    obtain ⟨e7, hFl⟩ := q1 F (.refl _)
    subst e7
    have hHl : H b1 = some (PoolO X.prog X.w b1) := R.sub.ext hFl
    have hdk : H a = some (.dK (tapeKs.zip vs2)) := by rw [hHa, eo]
    have hal : a ≠ b1 := fun z => by rw [z, hHl] at hdk; unfold PoolO at hdk; cases hdk
    have hval : valV (tapeKs.zip vs2) kLarge = some (.ref b1) := by rw [e1, e2]; rfl
    have at_ : ∀ (HH : Hp) (QQ : VK), HH a = some (.dK (tapeKs.zip vs2)) → QQ (.ref b1) HH → tPoolAt i σ HH QQ := fun HH QQ h1 h2 => ⟨_, ea, a, _, kLarge, _, rfl, .inl h1, rfl, hval, h2⟩
    refine at_ H _ hdk ⟨b1, rfl, hHl, fun ns hns => ?_⟩
    refine ⟨Nat.zero_le _, fun p hp => ?_⟩
    have hp' : H p = none ∧ p ≠ b1 := by
      by_cases z : p = b1
      · rw [z, upd_same] at hp; cases hp
      · rw [upd_ne z] at hp; exact ⟨hp, z⟩
    have hpa : a ≠ p := fun z => by rw [z, hp'.1] at hdk; cases hdk
    refine ⟨.list (ns.map .int), .list [], .lst (SqL.of (by rw [upd_ne (Ne.symm hp'.2), upd_same])) (ints_dp ns), .lst (SqL.of upd_same) .nil, ints_shaped ns, rfl, ?_⟩
    rw [list_eqv]
    refine ⟨_, rfl, ?_⟩
    have st : Stp F H F (upd H p (.lst [])) := ⟨.of (same_upd hp'.1), .refl _, R.sub.trans_same (same_upd hp'.1), fun _ _ e => .inl e, fun b ob u e => by
      by_cases hb : b = p
      · subst hb; rw [upd_same] at e; cases e
      · rw [upd_ne hb] at e; exact e, fun a e => (same_upd hp'.1).free e, fun t => t.ext (same_upd hp'.1), fun b ps e => ⟨ps, same_upd hp'.1 _ _ e⟩⟩
    have R2 := R.step st
    have back : ∀ u : HO, upd (upd (upd (upd H b1 (.lst (ns.map V.int))) p (.lst [])) b1 u) b1 (PoolO X.prog X.w b1) = upd H p (.lst []) := fun u => by
      funext b
      by_cases h1 : b = b1
      · subst h1; rw [upd_same, upd_ne (Ne.symm hp'.2), hHl]
      · rw [upd_ne h1, upd_ne h1]
        by_cases h2 : b = p
        · subst h2; rw [upd_same, upd_same]
        · rw [upd_ne h2, upd_ne h2, upd_ne h1]
    have back0 : upd (upd (upd H b1 (.lst (ns.map V.int))) p (.lst [])) b1 (PoolO X.prog X.w b1) = upd H p (.lst []) := by
      funext b
      by_cases h1 : b = b1
      · subst h1; rw [upd_same, upd_ne (Ne.symm hp'.2), hHl]
      · rw [upd_ne h1]
        by_cases h2 : b = p
        · subst h2; rw [upd_same, upd_same]
        · rw [upd_ne h2, upd_ne h2, upd_ne h1]
    have hl2 : (upd (upd H b1 (.lst (ns.map V.int))) p (.lst [])) b1 = some (.lst (ns.map V.int)) := by rw [upd_ne (Ne.symm hp'.2), upd_same]
    cases ns with
    | nil =>
      rw [show (!decide (([] : List Int) = [])) = false from rfl]
      show (if false = true then _ else tPoolPre X tb σ _ Q)
      rw [if_neg Bool.false_ne_true]
      refine ⟨b1, [], fun _ z => absurd z (by simp), hl2, ?_⟩
      rw [back0]
      exact hB.le N F _ σ ρ P Q R2 hb kk
    | cons n ns =>
      rw [show (!decide (n :: ns = [])) = true from rfl]
      show (if true = true then tPoolClose X (tBM X.K "list" rPopAt (tPoolAt i) (tCons (tC (V.int 0)) tNil)) σ _ Q else _)
      rw [if_pos rfl]
      refine at_ _ _ (by rw [upd_ne hpa, upd_ne hal]; exact hdk) ⟨.inl ⟨rfl, _, SqL.of hl2⟩, b1, _, 0, 0, .int n, rfl, rfl, hl2, by decide, by decide, seqIndex?_zero (by simp), rfl, ?_⟩
      refine ⟨b1, ns, fun m hm => hns m (List.mem_cons_of_mem _ hm), upd_same, ?_⟩
      rw [back]
      exact kk (.int n) _ F _ ρ (hn n (hns n (List.mem_cons_self ..))) (.refl _) R2 rfl⟩
end
end Dc

namespace Dc
open PySem PySem.Spec
open PyProof.Rows L2
variable [TabsT]

section
variable {K : KW} {N : En} {F H : Hp} {σ : L2.St} {ρ : Rho}
/-- one's own object is told otherwise, and known so -/
theorem RelS.give (R : RelS K N F H σ ρ) {i : Nat} {x : D} (h : ρ[i]? = some (.ow x)) (g : Addr → HO) (nt : ∀ a, NT (g a)) (nf : ∀ a ob u, g a ≠ .frz ob u) :
    ∃ a o, σ[i]? = some (some (.ref a)) ∧ H a = some o ∧ Shape K F a x o ∧ F a = none ∧ N.H0 a = none ∧ RelS K N (upd F a (g a)) (upd H a (g a)) σ (ρ.set i .no) := by
  obtain ⟨own, w1, w2⟩ := R.sl
  obtain ⟨o, e, a, u, ea, wa, ha, sh⟩ := w2 i _ h
  obtain ⟨q1, q2, q3⟩ := w1 a i wa
  have hl : i < ρ.length := (List.getElem?_eq_some_iff.mp h).1
  have sm : Same F (upd F a (g a)) := same_upd q1
  have nL : ∀ p ∈ N.L, p.1 ≠ a := fun p hp z => by
    have y := (R.lk p hp).2
    rw [z, ha] at y
    cases y
    exact sh.nofrz
  refine ⟨a, u, by rw [e, ea], ha, sh, q1, q2, fun b v eb => ?_, R.frz0.trans sm, fun b v eb => ?_, fun b v eb nt' => ?_, fun b eb => ?_, tabs_upd R.tb ha sh.nt sh.nc, tt_upd R.tt ha sh.nt, fun p hp => ⟨(R.lk p hp).1, by rw [upd_ne (nL p hp)]; exact (R.lk p hp).2⟩, fun b ob v eb => ?_, fun b => if b = a then none else own b, fun b j eb => ?_, fun j s es => ?_⟩
  · by_cases hb : b = a
    · subst hb; rw [upd_same] at eb; cases eb; exact .inl ⟨upd_same, nt _⟩
    · rw [upd_ne hb] at eb ⊢; exact R.sub b v eb
  · by_cases hb : b = a
    · subst hb; exact .inr q2
    · rw [upd_ne hb] at eb; exact R.new b v eb
  · have hb : b ≠ a := fun z => by rw [z, q2] at eb; cases eb
    rw [upd_ne hb]; exact R.old b v eb nt'
  · have hb : b ≠ a := fun z => by rw [z, upd_same] at eb; cases eb
    rw [upd_ne hb] at eb; exact R.nn b eb
  · by_cases hb : b = a
    · subst hb; rw [upd_same] at eb; exact absurd (Option.some.inj eb) (nf _ _ _)
    · rw [upd_ne hb] at eb; exact R.fz b ob v eb
  · by_cases hb : b = a
    · simp [hb] at eb
    · simp only [hb, if_false] at eb
      obtain ⟨z1, z2, z3⟩ := w1 b j eb
      exact ⟨by rw [upd_ne hb]; exact z1, z2, by rw [upd_ne hb]; exact z3⟩
  · by_cases hj : j = i
    · subst hj
      rw [List.getElem?_set_self hl] at es
      cases es
      exact ⟨o, e, trivial⟩
    · rw [List.getElem?_set_ne (Ne.symm hj)] at es
      obtain ⟨o2, e2, r2⟩ := w2 j s es
      refine ⟨o2, e2, ?_⟩
      have na : ∀ b, own b = some j → b ≠ a := fun b eb z => by rw [z, wa] at eb; cases eb; exact hj rfl
      cases s with
      | no => trivial
      | sh d => obtain ⟨v, y1, y2⟩ := r2; exact ⟨v, y1, y2.mono sm⟩
      | ow d => obtain ⟨b, v, p1, p2, p3, p4⟩ := r2; exact ⟨b, v, p1, by simp [na b p2, p2], by rw [upd_ne (na b p2)]; exact p3, p4.mono sm⟩
      | my _ d => obtain ⟨p0, b, v, p1, p2, p3, p4⟩ := r2; exact ⟨p0, b, v, p1, by simp [na b p2, p2], by rw [upd_ne (na b p2)]; exact p3, p4.mono sm⟩
/-- what stood aside is told otherwise, and known so -/
theorem RelS.giveAside {a : Addr} {o o' : HO} (R : RelS K (N.plus a o) F H σ ρ) (h0 : N.H0 a = none) (hF : F a = none) (hH : H a = some o) (hL : ∀ p ∈ N.L, p.1 ≠ a) (nt0 : NT o) (nc0 : NC o) (nt : NT o') (nf0 : ∀ ob u, o ≠ .frz ob u) (nf : ∀ ob u, o' ≠ .frz ob u) :
    RelS K N (upd F a o') (upd H a o') σ ρ := by
  obtain ⟨own, w1, w2⟩ := R.sl
  have sm : Same F (upd F a o') := same_upd hF
  have na : ∀ b j, own b = some j → b ≠ a := fun b j e z => by
    subst z
    have q := (w1 b j e).2.1
    rw [show (N.plus b o).H0 b = some o from upd_same] at q; cases q
  have at0 : ∀ b, b ≠ a → (N.plus a o).H0 b = N.H0 b := fun b hb => upd_ne hb
  refine ⟨fun b v eb => ?_, R.frz0.trans sm, fun b v eb => ?_, fun b v eb nt' => ?_, fun b eb => ?_, tabs_upd R.tb hH nt0 nc0, fun b ps eb => ?_, fun p hp => ⟨(R.lk p hp).1, by rw [upd_ne (hL p hp)]; exact (R.lk p hp).2⟩, fun b ob v eb => ?_, own, fun b j eb => ?_, fun j s es => ?_⟩
  · by_cases hb : b = a
    · subst hb; rw [upd_same] at eb; cases eb; exact .inl ⟨upd_same, nt⟩
    · rw [upd_ne hb] at eb ⊢; exact R.sub b v eb
  · by_cases hb : b = a
    · subst hb; exact .inr h0
    · rw [upd_ne hb] at eb
      refine (R.new b v eb).imp id fun z => ?_
      rw [at0 b hb] at z; exact z
  · have hb : b ≠ a := fun z => by rw [z, h0] at eb; cases eb
    rw [upd_ne hb]; exact R.old b v (by rw [at0 b hb]; exact eb) nt'
  · have hb : b ≠ a := fun z => by rw [z, upd_same] at eb; cases eb
    rw [upd_ne hb] at eb
    have := R.nn b eb
    rw [at0 b hb] at this; exact this
  · have hb : b ≠ a := fun z => by rw [z, h0] at eb; cases eb
    rw [upd_ne hb]
    exact R.tt b ps (by rw [at0 b hb]; exact eb)
  · by_cases hb : b = a
    · subst hb; rw [upd_same] at eb; exact absurd (Option.some.inj eb) (nf _ _)
    · rw [upd_ne hb] at eb
      refine (R.fz b ob v eb).imp (fun z => ?_) id
      rw [at0 b hb] at z; exact z
  · have hb := na b j eb
    obtain ⟨z1, z2, z3⟩ := w1 b j eb
    rw [at0 b hb] at z2
    exact ⟨by rw [upd_ne hb]; exact z1, z2, by rw [upd_ne hb]; exact z3⟩
  · obtain ⟨o2, e2, r2⟩ := w2 j s es
    refine ⟨o2, e2, ?_⟩
    cases s with
    | no => trivial
    | sh d => obtain ⟨v, y1, y2⟩ := r2; exact ⟨v, y1, y2.mono sm⟩
    | ow d => obtain ⟨b, v, p1, p2, p3, p4⟩ := r2; exact ⟨b, v, p1, p2, by rw [upd_ne (na b j p2)]; exact p3, p4.mono sm⟩
    | my _ d => obtain ⟨p0, b, v, p1, p2, p3, p4⟩ := r2; exact ⟨p0, b, v, p1, p2, by rw [upd_ne (na b j p2)]; exact p3, p4.mono sm⟩
end
section
variable {X : Cx} {pos p1 p2 p3 p4 p5 p6 p7 : Pos} {e : Expr} {t : TE} {te : TE} {de : DTE} {x : Str}
def tBegClose (X : Cx) (t : TE) : TE := fun σ H Q => t σ H fun v H1 => ∃ a l c, ∃ (ns : List Int) (r tn : Int), v = .ref a ∧ a ≠ l ∧ nat0 ns ∧ 0 ≤ r ∧ 0 ≤ tn ∧ H1 l = some (.lst (ns.map V.int)) ∧ H1 a = some (.dK (tapeKs.zip (tapeVs l c r tn))) ∧ Q v (upd (upd H1 l (PoolO X.prog X.w l)) a (TapeO X.prog X.w a l c))
theorem pe_begClose (h : PE X e t) : PE X e (tBegClose X t) := ⟨fun pins s σ H Q I q => thn (h.run pins s σ H _ I q) fun v s1 ⟨x, H1, I1, r, a, l, c, ns, r0, tn, ev, hal, hns, hr, ht, hl, ha, q1⟩ =>
  ⟨x, _, Inv.tapeClose (Inv.poolClose I1 hl hns) (by rw [upd_ne hal]; exact ha) hr ht, r, q1⟩⟩
abbrev sRest : Str := Str.ofString "rest"
abbrev sCells : Str := Str.ofString "cells"
abbrev sTurn : Str := Str.ofString "turn"
def tBegun (X : Cx) (i : Nat) (te : TE) : TE := tBegClose X (tDisp [(tC (.str sLarge), tVar i), (tC (.str sRest), tC (.int 0)), (tC (.str sCells), te), (tC (.str sTurn), tC (.int 0))])
def dBegun (X : Cx) (i : Nat) (de : DTE) : DTE := fun ρ P => (∃ ns : List Int, ρ[i]? = some (.ow (.lst (ns.map D.int))) ∧ nat0 ns) ∧ de ρ fun y ρ1 => ρ1 = ρ ∧ (∃ cs : List Int, y = .lst (cs.map D.int) ∧ nat0 cs) ∧ P (tapeD X.prog X.kw) (ρ1.set i .no)
theorem de_begun {j1 j2 j3 j4 j5 j6 : Nat} (i : Nat) (hL : PE X (.Name x p1) (tVar i)) (h : DE X e te de) :
    DE X (.Dict [some (.Constant (.str sLarge) j1 p2), some (.Constant (.str sRest) j2 p3), some (.Constant (.str sCells) j3 p4), some (.Constant (.str sTurn) j4 p5)] [.Name x p1, .Constant (.int 0) j5 p6, e, .Constant (.int 0) j6 p7] pos) (tBegun X i te) (dBegun X i de) :=
  ⟨pe_begClose (pe_disp (pps_cons pe_str hL (pps_cons pe_str pe_int (pps_cons pe_str h.pe (pps_cons pe_str pe_int pps_nil)))) rfl rfl (by simp) (by show 4 ≤ 15; decide)), fun N F H σ ρ P Q R q k => by
    obtain ⟨⟨ns, hx, hns⟩, q⟩ := q
    intro p hp
    obtain ⟨p', o', ep, h0, hFp, hHp, R1, sh1⟩ := Pend.laid (x := .dk [] []) (o := .dK []) R ⟨[], rfl, rfl, rfl⟩ hp
    cases ep
    rw [upd_same] at hHp
    cases hHp
    obtain ⟨l, ol, el, _⟩ := R1.owAt hx
    refine ⟨_, el, ?_⟩
    refine h.le _ F _ σ ρ _ _ R1 q fun y w F2 H2 ρ2 q2 s2 R2 r2 => ?_
    obtain ⟨e2, ⟨cs, ey, hcs⟩, hp2⟩ := q2
    subst e2 ey
    have hL2 : ∀ pp ∈ N.L, pp.1 ≠ p := fun pp hpp z => by
      have y := (R.lk pp hpp).2
      rw [z, hp] at y; cases y
    have hH2p : H2 p = some (.dK []) := R2.plus_at (fun ob u z => hL2 _ z rfl)
    have hF2p : F2 p = none := by
      cases z : F2 p with
      | none => rfl
      | some u =>
        rcases R2.new p u z with y | y
        · have := R1.frz0 p u y
          rw [hFp] at this; cases this
        · rw [show (N.plus p (.dK [])).H0 p = some (.dK []) from upd_same] at y; cases y
    obtain ⟨c, us, ew, hqc, hlc, rc⟩ := r2
    subst ew
    have euc := reps_ints rc
    subst euc
    obtain ⟨l2, o2, el2, hl2, sh2, hF2l, _, R3⟩ := R2.give hx (fun l => PoolO X.prog X.w l) (fun _ => pool_nt) (fun _ => pool_nf)
    rw [el] at el2
    cases el2
    obtain ⟨vs, eo, hz, rr⟩ := sh2
    have evs := reps_ints rr
    subst evs eo
    have hpl : p ≠ l := fun z => by rw [← z, hH2p] at hl2; cases hl2
    refine ⟨hH2p, [(kLarge, .ref l), (kRest, .int 0), (kCells, .ref c), (kTurn, .int 0)], rfl, by show 4 ≤ 15; decide, p, l, c, ns, 0, 0, rfl, hpl, hns, Int.le_refl _, Int.le_refl _, by rw [upd_ne (Ne.symm hpl)]; exact hl2, ?_, ?_⟩
    · rw [upd_same]
      rfl
    have hw : upd (upd (upd H2 p (.dK (mergeK [] [(kLarge, .ref l), (kRest, .int 0), (kCells, .ref c), (kTurn, .int 0)]))) l (PoolO X.prog X.w l)) p (TapeO X.prog X.w p l c) = upd (upd H2 l (PoolO X.prog X.w l)) p (TapeO X.prog X.w p l c) := by
      funext b
      by_cases h1 : b = p
      · subst h1; rw [upd_same, upd_same]
      · rw [upd_ne h1, upd_ne h1]
        by_cases h2 : b = l
        · subst h2; rw [upd_same, upd_same]
        · rw [upd_ne h2, upd_ne h2, upd_ne h1]
    rw [hw]
    have R4 := R3.giveAside (o' := TapeO X.prog X.w p l c) h0 (by rw [upd_ne hpl]; exact hF2p) (by rw [upd_ne hpl]; exact hH2p) hL2 (fun _ z => by cases z) (fun _ _ z => by unfold LamX.CodeO at z; cases z) tape_nt (fun _ _ z => by cases z) tape_nf
    have sm1 : Same F2 (upd F2 l (PoolO X.prog X.w l)) := same_upd hF2l
    have sm2 : Same (upd F2 l (PoolO X.prog X.w l)) (upd (upd F2 l (PoolO X.prog X.w l)) p (TapeO X.prog X.w p l c)) := same_upd (by rw [upd_ne hpl]; exact hF2p)
    refine k _ _ _ _ _ hp2 (s2.trans (sm1.trans sm2)) R4 ⟨p, rfl, fun F' s => ⟨l, c, cs, hpl, s _ _ upd_same, s _ _ (by rw [upd_ne (Ne.symm hpl), upd_same]), Same.seq ((sm1.trans sm2).trans s) hqc, hcs⟩⟩⟩
end
end Dc

namespace Dc
open PySem PySem.Spec
open PyProof.Rows L2
variable [TabsT]

/-! ### a module's constants -/
section
variable {X : Cx} {pos : Pos}
theorem de_gint {x : Str} {i : Int} (hg : Gl X x) (hm : ∃ t, X.mg x = some (.int i t)) (hdb : (x == ("__debug__" : Str)) = false := by decide) : DE X (.Name x pos) (tC (.int i)) (dK1 (.int i)) := by
  obtain ⟨t, e⟩ := hm
  exact de_gl hg e ⟨t, rfl⟩ (fun _ => rfl) hdb
theorem de_gstr {x : Str} {i : Str} (hg : Gl X x) (hm : ∃ t, X.mg x = some (.str i t)) (hdb : (x == ("__debug__" : Str)) = false := by decide) : DE X (.Name x pos) (tC (.str i)) (dK1 (.str i)) := by
  obtain ⟨t, e⟩ := hm
  exact de_gl hg e ⟨t, rfl⟩ (fun _ => rfl) hdb
theorem de_gtup {x : Str} {a : Addr} {d : D} (hg : Gl X x) (hm : X.mg x = some (.ref a)) (hr : ∀ F, Rep X.kw F d (.ref a)) (hdb : (x == ("__debug__" : Str)) = false := by decide) : DE X (.Name x pos) (tC (.ref a)) (dK1 d) :=
  de_gl hg hm rfl hr hdb
variable {a b c : Expr} {ta tb tc : TE} {da db dc : DTE}
theorem dt_chain {op op' : CmpOp} {r r' : R2} {rd rd' : D → D → (D → Prop) → Prop} (ho : OpR X (compareOp op) r) (ho' : OpR X (compareOp op') r') (l : LR X.kw r rd) (l' : LR X.kw r' rd') (ha : DC X a ta da) (hb : DC X b tb db) (hc : DC X c tc dc) (hm : lastMarks [op, op'] [b, c] = false := by rfl) :
    DT X (.Compare a [op, op'] [b, c] pos) (tTest (tChain r r' ta tb tc)) (dTst (dChain rd rd' da db dc)) := ⟨pt_chain ho ho' ha.pe hb.pe hc.pe hm, fun N F H σ ρ P Q R q k => by
  refine (de_chain (pos := pos) ho ho' l l' ha hb hc hm).le N F H σ ρ _ _ R q fun x v F1 H1 ρ1 q1 s1 R1 r1 => ?_
  split at q1
  · exact ⟨_, r1, k _ F1 H1 ρ1 q1 s1 R1⟩
  · exact q1.elim⟩
end

/-! ### set(list of ints), sorted -/
section
variable {P : Program} {w : World} {A : Around} {E : Value → Shared → Prop} {s : Shared}
abbrev SetE (w : World) : Obj := { cls := .type "set", dict := none, data := .set #[] 0 (.fresh 0 0 (!w.params.followText "set-order")) }
abbrev withE (w : World) (s : Shared) : Shared := { s with heap := s.heap.push (SetE w) }
set_option maxHeartbeats 3200000 in
theorem call_set_ilst {a : Addr} {us : Array Value} (zs : List Int) {Q : Value → Shared → Prop} (free : A.handled = none) (ul : s.heap.IsList a us) (ui : IntsAre us.toList zs) (few : zs.length + 1 < scanBound)
    (fin : ∀ (g : Heap) (t n : Nat), SetR w g s.heap.objs.size (fun j => decide (j ∈ zs)) n → n ≤ zs.length → (∀ b o, s.heap.get? b = some o → g.get? b = some o) → Q (.ref s.heap.objs.size) { s with heap := g, toks := t }) :
    wpAny (model P w) A (call (.type "set") [.ref a]) Q E s := by
  have usz : us.size = zs.length := (Array.length_toList (xs := us)).symm.trans (IntsAre.length ui)
  have made := F.called_set.made
  have sub := F.called_set.sub
  obtain ⟨c, tl, mro⟩ := F.called_set.mro
  apply wpAny_call
  apply codeAny_of_tree
  show wpAny _ _ (callAny (.type "set") _) _ _ _
  apply wpAny_pure
  refine ⟨Code.quiet_builtin _ (by decide +kernel), ?_⟩
  apply codeAny_builtin F.entry_type_call
  rw [Around.under_plain (weight_type_call_type "set" [.ref a] []) rfl]
  have n1 := F.called_set.notType
  have n2 := F.called_set.canCreate
  have n3 := F.typeCall_set_1 (.ref a)
  repeat any_goals (first | assumption | wp_step)
  refine codeAny_mono (code_set_led1 (.ref a) (E := E) (Q₁ := fun ob z => ob = .ref s.heap.objs.size ∧ z = withE w s) ⟨rfl, rfl⟩) fun r z hz => ?_
  rcases r with e | r
  · exact hz
  cases r with
  | ret ob =>
    rcases hz with ⟨rfl, rfl⟩
    have at0 : (withE w s).heap.get? s.heap.objs.size = some (SetE w) := Heap.get?_push_size _ rfl
    have ty0 : Shared.TypeIs (withE w s) (.ref s.heap.objs.size) "set" := ⟨_, at0, rfl⟩
    have i1 := F.called_set.init.lookup
    have i2 := F.called_set.init.bind (.ref s.heap.objs.size)
    repeat any_goals (first | assumption | wp_step)
    refine codeAny_mono (codeAny_call_builtin (R := wants (fun r y => r = .none ∧ ∃ g t n, y = { s with heap := g, toks := t } ∧ SetR w g s.heap.objs.size (fun j => decide (j ∈ zs)) n ∧ n ≤ zs.length ∧
      ∀ b o, s.heap.get? b = some o → g.get? b = some o) E) F.called_set.init.plain F.entry_set_init (check_set_init_1 ty0 ?_)) fun r2 y hy => ?_
    rotate_left
    · rcases r2 with e | r2
      · exact hy
      cases r2 with
      | ret r =>
        rcases hy with ⟨rfl, g, t, n, rfl, q1, q2, q3⟩
        repeat any_goals (first | assumption | wp_step)
        exact fin _ _ _ q1 q2 q3
      | _ => exact hy.elim
    rcases ul with ⟨⟨k1, k2, k3, k4⟩, at1, (rfl : k1 = _), m, (rfl : k3 = _)⟩
    have lt1 : a < s.heap.objs.size := Heap.lt_size at1
    have at2 : (withE w s).heap.get? a = some { cls := .type "list", dict := k2, data := .seq us m, slots := k4 } := Heap.get?_push_of_some _ at1
    have l1 : (withE w s).heap.IsList a us := ⟨_, at2, rfl, m, rfl⟩
    have t1 := F.sub_list_set
    have t2 := F.sub_list_frozenset
    have t3 : (Value.type "list" == Value.type "dict") = false := by decide
    unfold Builtin.«set.__init__» noKeywords Builtin.Frozenset.updateFrom
    generalize hPI : pyIter = PI
    wp_walk
    subst hPI
    apply wpAny_pyIter_list l1
    apply wpAny_bind
    apply wpAny_runValue
    have free3 : A.in1.in1.in1.handled = none := by simp [free]
    have sz1 : (withE w s).heap.objs.size = s.heap.objs.size + 1 := Heap.size_push ..
    have lt2 : ∀ b : Addr, b < s.heap.objs.size → b ≠ (withE w s).heap.objs.size := fun b hb => Nat.ne_of_lt (sz1.symm ▸ Nat.lt_succ_of_lt hb)
    have ne1 : a ≠ (withE w s).heap.objs.size := lt2 a lt1
    have nin : s.heap.objs.size ∉ [(withE w s).heap.objs.size, a] := by
      simp only [List.mem_cons, List.not_mem_nil, or_false, not_or]
      exact ⟨Nat.ne_of_lt (sz1.symm ▸ Nat.lt_succ_self _), Nat.ne_of_gt lt1⟩
    have each : ∀ (i : Nat) (v : Value), us[i]? = some v → ∃ k t, zs[i]? = some k ∧ v = .int k t := fun i v hv => by
      obtain ⟨hi, _⟩ := Array.getElem?_eq_some_iff.mp hv
      obtain ⟨t, e⟩ := PyProof.Rows.IntsAre.int_at ui i v (Array.getElem?_toList.trans hv)
      rw [usz] at hi
      refine ⟨zs[i], t, List.getElem?_eq_getElem hi, e.trans ?_⟩
      rw [List.getD_eq_getElem?_getD, List.getElem?_eq_getElem hi]
      rfl
    refine set_update_ints (Walks.list free3 _ a ne1 us).toS s.heap.objs.size nin zs usz few each (us.size - 0) 0 _ (by omega) (Nat.zero_le _) ⟨⟨_, Heap.get?_push_size _ rfl, rfl, rfl⟩, l1.push _⟩ ⟨0, Nat.le_refl 0, setR_new_at ?_⟩ fun y n hm hn hS => ?_
    · exact Heap.get?_push_of_some _ at0
    · obtain ⟨g, g2, d2, t2, o2⟩ := y
      have : g2 = s.gens := hm.gens
      subst this
      have : d2 = s.drawn := hm.drawn
      subst this
      have : o2 = s.os := hm.os
      subst this
      show wpAny _ _ _ _ _ _
      apply wpAny_pure
      show wpAny _ _ (ret Value.none) _ _ _
      rw [usz] at hn
      refine wpAny_pure ⟨rfl, g, t2, n, rfl, hS, hn, fun b o e => ?_⟩
      have hb := Heap.lt_size e
      refine hm.heap b o ?_ (Heap.get?_push_of_some _ (Heap.get?_push_of_some _ e))
      simp only [List.mem_cons, List.not_mem_nil, or_false, not_or]
      exact ⟨Nat.ne_of_lt hb, lt2 b hb⟩
  | _ => exact hz.elim
end
section
variable {X : Cx}
def rSetIL (K : PySem.W.Frag) (w : World) : List V → Hp → VK → Prop := fun xs H Q => ∃ (l : Addr) (zs : List Int), xs = [.ref l] ∧ SqL K H l (zs.map V.int) ∧ zs.length ≤ 1000 ∧ ∀ p n, H p = none → n ≤ zs.length → Q (.ref p) (upd H p (SetO w p (fun j => decide (j ∈ zs)) n))
theorem cr_setIL (hc : X.calm = true) : CallR X (.type "set") (rSetIL X.K X.w) := by
  intro pins s σ H xs us Q I r h
  obtain ⟨l, zs, rfl, hq, hz, q⟩ := h
  rw [Vals.ref1 r]
  obtain ⟨its, rv, pl, _⟩ := I.list hq
  refine call_set_ilst (P := X.prog) (w := X.w) zs (I.ok.hd hc) pl.isList (ints_of_vals rv) (by unfold scanBound; omega) fun g t n hS hn kp => ?_
  exact ⟨.ref _, upd H s.heap.objs.size (SetO X.w s.heap.objs.size (fun j => decide (j ∈ zs)) n), I.laid (t' := t) kp (Nat.le_refl _) (setO_new hS), rfl, q _ n (I.hok.fresh (Nat.le_refl _)) hn⟩
def tSortedSet (X : Cx) (ta : TE) : TE := tCB (rSortedSet X.w) (tCons (tCB (rSetIL X.K X.w) (tCons ta tNil)) tNil)
def dSortedSet (da : DTE) : DTE := fun ρ P => da ρ fun x ρ1 => ∃ zs : List Int, x = .lst (zs.map D.int) ∧ zs.length < 64 ∧ ∀ ns : List Int, ns.Pairwise (· < ·) → (∀ k : Int, k ∈ ns ↔ k ∈ zs) → P (.lst (ns.map D.int)) ρ1
theorem de_sortedSet {p p2 pos pos2 : Pos} {a : Expr} {ta : TE} {da : DTE} (hc : X.calm = true) (hg : Gl X "sorted") (hm : X.mg "sorted" = none) (hg2 : Gl X "set") (hm2 : X.mg "set" = none) (h : DC X a ta da)
    (na : starEach [a] X.env = (false, eval a X.env) :: starEach [] X.env := by rfl) (hpl : (backTo pos2 (starEach [] X.env)).any (·.1) = false := by rfl)
    (na2 : starEach [Expr.Call (.Name "set" p2) [a] [] pos2] X.env = (false, eval (Expr.Call (.Name "set" p2) [a] [] pos2) X.env) :: starEach [] X.env := by rfl) (hpl2 : (backTo pos (starEach [] X.env)).any (·.1) = false := by rfl) :
    DE X (.Call (.Name "sorted" p) [.Call (.Name "set" p2) [a] [] pos2] [] pos) (tSortedSet X ta) (dSortedSet da) :=
  ⟨pe_callB (cr_sortedSet hc) hg hm rfl (pa_cons (pe_callTy (cr_setIL hc) hg2 hm2 rfl (pa_cons h.pe pa_nil na) (by decide) (by decide) na hpl) pa_nil na2) (by decide) (by decide) na2 hpl2, fun N F H σ ρ P Q R q k => by
    refine h.le N F H σ ρ _ _ R q fun x v F1 H1 ρ1 q1 s1 R1 r1 => ?_
    obtain ⟨zs, ex, hf, q1⟩ := q1
    subst ex
    obtain ⟨a0, us, ev, hq, hl, r⟩ := R1.opd r1
    have eu := reps_ints r
    subst eu
    refine ⟨a0, zs, by rw [ev], hq, by omega, fun p0 n hp hn => ⟨p0, _, n, rfl, upd_same, by omega, fun ns p1 hs hk hln hp1 => ?_⟩⟩
    have hp1' : H1 p1 = none := by
      by_cases z : p1 = p0
      · rw [z, upd_same] at hp1; cases hp1
      · rw [upd_ne z] at hp1; exact hp1
    have st0 : Stp F1 H1 F1 (upd H1 p0 (SetO X.w p0 (fun j => decide (j ∈ zs)) n)) := ⟨.of (same_upd hp), .refl _, R1.sub.trans_same (same_upd hp), fun _ _ e => .inl e, fun b ob u e => by
      by_cases hb : b = p0
      · rw [hb, upd_same] at e; cases e
      · rw [upd_ne hb] at e; exact e, fun a e => (same_upd hp).free e, fun t => t.ext (same_upd hp), fun b ps e => ⟨ps, same_upd hp _ _ e⟩⟩
    have R2 := R1.step st0
    have st1 := Stp.laid R2.sub (o := .lst (ns.map V.int)) hp1
    exact k _ _ _ _ ρ1 (q1 ns hs fun z => (hk z).trans (by simp)) (s1.trans st1.ff) (R2.step st1) ⟨p1, _, rfl, SqL.of upd_same, by rw [List.length_map, sizeLine_eq]; omega, reps_of_ints ns⟩⟩
end
end Dc

namespace Dc
open PySem PySem.Spec
open PyProof.Rows L2
variable [TabsT]

theorem hu1 {k : Nat} {A : Around} (r : Room k A) : A.units + 1 < cLine := by have := r.un; omega
theorem hu64 {k : Nat} {A : Around} (r : Room k A) : A.units + 64 < cLine := by have := r.un; omega
/-! ### a display of one pair, its key an int -/
section
variable {X : Cx} {pos : Pos} {k v : Expr} {tk tv : TE} {dk dv : DTE}
def dDisp1 (dk dv : DTE) : DTE := fun ρ P => dk ρ fun x ρ1 => dv ρ1 fun y ρ2 => ∃ i, x = .int i ∧ P (.dk [.inl i] [y]) ρ2
theorem RelS.aside {K : KW} {N : En} {F H : Hp} {σ : L2.St} {ρ : Rho} {p : Addr} {o : HO} (R : RelS K N F H σ ρ) (hp : H p = none) (sh : ∃ x, Shape K F p x o) : RelS K (N.plus p o) F (upd H p o) σ ρ ∧ N.H0 p = none ∧ ∀ pp ∈ N.L, pp.1 ≠ p := by
  obtain ⟨x, sh⟩ := sh
  obtain ⟨p', o', ep, h0, _, hH, R1, _⟩ := Pend.laid R sh hp
  cases ep
  rw [upd_same] at hH
  cases hH
  exact ⟨R1, h0, fun pp hpp z => by
    have y := (R.lk pp hpp).2
    rw [z, hp] at y; cases y⟩
/-- an object that stands aside, told otherwise -/
theorem RelS.aside_to {K : KW} {N : En} {F H : Hp} {σ : L2.St} {ρ : Rho} {p : Addr} {o o' : HO} (R : RelS K (N.plus p o) F H σ ρ) (h0 : N.H0 p = none) (hL : ∀ pp ∈ N.L, pp.1 ≠ p) (hH : H p = some o) (hF : F p = none) (nt0 : NT o) (nc0 : NC o) (nt : NT o') (nf0 : ∀ ob u, o ≠ .frz ob u) (nf : ∀ ob u, o' ≠ .frz ob u) : RelS K (N.plus p o') F (upd H p o') σ ρ := by
  obtain ⟨own, w1, w2⟩ := R.sl
  have na : ∀ b j, own b = some j → b ≠ p := fun b j e z => by
    subst z
    have q := (w1 b j e).2.1
    rw [show (N.plus b o).H0 b = some o from upd_same] at q; cases q
  have at0 : ∀ b, b ≠ p → (N.plus p o).H0 b = N.H0 b := fun b hb => upd_ne hb
  have at1 : ∀ b, b ≠ p → (N.plus p o').H0 b = N.H0 b := fun b hb => upd_ne hb
  refine ⟨fun b v eb => ?_, R.frz0, fun b v eb => ?_, fun b v eb nt' => ?_, fun b eb => ?_, tabs_upd R.tb hH nt0 nc0, fun b ps eb => ?_, fun pp hp => ⟨(R.lk pp hp).1, by rw [upd_ne (hL pp hp)]; exact (R.lk pp hp).2⟩, fun b ob v eb => ?_, own, fun b j eb => ?_, fun j s es => ?_⟩
  · have hb : b ≠ p := fun z => by rw [z, hF] at eb; cases eb
    rw [upd_ne hb]; exact R.sub b v eb
  · have hb : b ≠ p := fun z => by rw [z, hF] at eb; cases eb
    rw [at1 b hb, ← at0 b hb]; exact R.new b v eb
  · by_cases hb : b = p
    · subst hb
      rw [show (N.plus b o').H0 b = some o' from upd_same] at eb; cases eb
      exact .inl upd_same
    · rw [upd_ne hb]; exact R.old b v (by rw [at0 b hb, ← at1 b hb]; exact eb) nt'
  · have hb : b ≠ p := fun z => by rw [z, upd_same] at eb; cases eb
    rw [upd_ne hb] at eb
    rw [at1 b hb, ← at0 b hb]; exact R.nn b eb
  · by_cases hb : b = p
    · subst hb
      rw [show (N.plus b o').H0 b = some o' from upd_same] at eb
      exact absurd (Option.some.inj eb) (nt ps)
    · rw [upd_ne hb]; exact R.tt b ps (by rw [at0 b hb, ← at1 b hb]; exact eb)
  · by_cases hb : b = p
    · subst hb; rw [upd_same] at eb; exact absurd (Option.some.inj eb) (nf _ _)
    · rw [upd_ne hb] at eb
      refine (R.fz b ob v eb).imp (fun z => ?_) id
      rw [at1 b hb, ← at0 b hb]; exact z
  · have hb := na b j eb
    obtain ⟨z1, z2, z3⟩ := w1 b j eb
    exact ⟨z1, by rw [at1 b hb, ← at0 b hb]; exact z2, by rw [upd_ne hb]; exact z3⟩
  · obtain ⟨o2, e2, r2⟩ := w2 j s es
    refine ⟨o2, e2, ?_⟩
    cases s with
    | no => trivial
    | sh d => exact r2
    | ow d => obtain ⟨b, v, p1, p2, p3, p4⟩ := r2; exact ⟨b, v, p1, p2, by rw [upd_ne (na b j p2)]; exact p3, p4⟩
    | my _ d => obtain ⟨p0, b, v, p1, p2, p3, p4⟩ := r2; exact ⟨p0, b, v, p1, p2, by rw [upd_ne (na b j p2)]; exact p3, p4⟩
theorem dv_d1 (hk : DE X k tk dk) (hv : DE X v tv dv) : DV X (.Dict [some k] [v] pos) (tDisp [(tk, tv)]) (vOw (dDisp1 dk dv)) :=
  ⟨pe_disp (pps_cons hk.pe hv.pe pps_nil) rfl rfl (by simp) (by show 1 ≤ 15; decide), fun N F H σ ρ P Q R q kk => by
    intro p hp
    obtain ⟨R0, h0, hL⟩ := R.aside (o := .dK []) hp ⟨.dk [] [], [], rfl, rfl, rfl⟩
    have hFp : F p = none := R.sub.free hp
    refine hk.le _ F _ σ ρ _ _ R0 q fun x u F1 H1 ρ1 q1 s1 R1 r1 => ?_
    refine hv.le _ F1 H1 σ ρ1 _ _ R1 q1 fun y w F2 H2 ρ2 q2 s2 R2 r2 => ?_
    obtain ⟨i, ex, hP⟩ := q2
    subst ex
    cases (show u = .int i from r1)
    have hH2p : H2 p = some (.dK []) := R2.plus_at (fun ob u z => hL _ z rfl)
    have hF2p : F2 p = none := by
      cases z : F2 p with
      | none => rfl
      | some u =>
        rcases R2.new p u z with y | y
        · have := R0.frz0 p u y
          rw [hFp] at this; cases this
        · rw [show (N.plus p (.dK [])).H0 p = some (.dK []) from upd_same] at y; cases y
    refine ⟨hH2p, [(.inl i, w)], rfl, by show 1 ≤ 15; decide, ?_⟩
    have R3 := R2.aside_to (o' := .dK (mergeK [] [(.inl i, w)])) h0 hL hH2p hF2p (fun _ z => by cases z) (fun _ _ z => by unfold LamX.CodeO at z; cases z) (fun _ z => by cases z) (fun _ _ z => by cases z) (fun _ _ z => by cases z)
    exact kk _ _ F2 _ ρ2 hP (s1.trans s2) ⟨p, _, rfl, h0, hF2p, upd_same, R3, [w], rfl, rfl, .one r2⟩⟩
end
/-! named readings -/
def dIlst (de : DTE) : DTI := fun ρ P => de ρ fun x ρ1 => match x with
  | .lst xs => P xs ρ1
  | _ => False
def dItup (de : DTE) : DTI := fun ρ P => de ρ fun x ρ1 => match x with
  | .tup xs => P xs ρ1
  | _ => False
end Dc

namespace Dc
open PySem PySem.Spec
open PyProof.Rows L2
variable [TabsT]

/-! ### a def in a slot, called there -/
structure KnF (P : Program) (w : World) (K : PySem.W.Frag) (mg : Str → Option Value) (base : Heap) (k : Nat) (f : Addr) (S : SD) : Prop where
  ex : ∃ (fd : FuncData) (ps : List Str), FnOk P w K mg base CX0 k f fd ps (spD ⟨K, w⟩ S) ∧ PySem.W.keepIn K (.ref f) = true ∧ Binds K fd ps []
section
variable {X : Cx} {pos p : Pos} {e : Expr} {te : TE} {ue : DTE}
theorem de_callL {a : Str} {f : Addr} {S : SD} {k j : Nat} (i : Nat) (c : KnF X.prog X.w X.K X.mg X.base k f S) (hr : Room j X.A) (hk : k ≤ j) (h : DE X e te ue) (hN : X.N[i]? = some a := by rfl) (hv : Vis X.env.scope a := by first | exact Or.inl rfl | exact Or.inr (Or.inl rfl) | exact Or.inr (Or.inr rfl))
    (he : starEach [e] X.env = (false, eval e X.env) :: starEach [] X.env := by rfl) (hdb : (a == ("__debug__" : Str)) = false := by decide) (hcd : (a == ("__classdict__" : Str)) = false := by decide) (hpl : (backTo pos (starEach [] X.env)).any (·.1) = false := by rfl) :
    DE X (.Call (.Name a p) [e] [] pos) (tCallL i f (spD X.kw S) [] E0 (tCons te tNil)) (dAct i (.rf f) S ue) := by
  obtain ⟨fd, ps, hf, kp, hb⟩ := c.ex
  exact ⟨pe_callL hf (hr.mono hk) hN hv kp hb .nil pass0 (pa_cons h.pe pa_nil he) hdb hcd he hpl, fun N F H σ ρ P Q R q kk => by
    obtain ⟨hx, q⟩ := q
    obtain ⟨v, ev, rv⟩ := R.shared hx
    cases (show v = .ref f from rv)
    refine ⟨ev, h.le N F H σ ρ _ _ R q fun y w F1 H1 ρ1 q1 s1 R1 r1 => ?_⟩
    exact ⟨F1, [y], _, R1.tb, R1.sub, .one r1, q1, fun z w2 F2 H2 p2 st rr => kk z w2 F2 H2 ρ1 p2 (s1.trans st.ff) (R1.step st) rr⟩⟩
end
/-! ### a def whose code object is known -/
section
variable {P : Program} {w : World} {K : PySem.W.Frag} {mg : Str → Option Value} {base : Heap}
theorem fn_dC {x qual : Str} {params : Arguments} {body : List Stmt} {scope : Scope} {dvs : List V} {kws : List (Str × V)} {f : Addr} {fd : FuncData} {Ns ps : List Str} {k : Nat} {S : SD} {d : DTS} (F : FunD K x qual params body scope dvs kws f fd) (Sc : FnScope Ns ps scope)
    (len : ∀ ds P, S ds P → ds.length = ps.length) (hn : ps.length ≤ Ns.length)
    (hbody : ∀ (A : Around) (outer : List Env) (s : Shared) (H : Hp) (E : XK), Room k (A.deeper (envOfC qual scope s.heap.objs.size f fd.code)) → ∃ t, DSs (cxOf CX0 P w K mg base Ns qual scope f fd.code A outer s H E).nox body t d)
    (rd : ∀ ds P, S ds P → d { nx := fun _ => P .non, rt := fun x _ => P x } (rho0 Ns.length ds)) : FnOk P w K mg base CX0 (k + 1) f fd ps (spD ⟨K, w⟩ S) := by
  obtain ⟨oc, od, dV, kV, doc, pm, an, cdv, ct, osl, rfl, lk, hcd, _, _⟩ := F.ex
  refine fn_of lk hcd Sc (fun vs H Q E h => ?_) (fun A outer s H vs Q E hr h => ?_)
  · obtain ⟨F, ds, P, _, _, r, hS, _⟩ := h
    rw [← r.length]
    exact len ds P hS
  · obtain ⟨F1, ds, P1, tb, sb, r, hS, k⟩ := h
    obtain ⟨t, ht⟩ := hbody A outer s H E hr
    refine ⟨t, ht.ps.nox, ?_⟩
    have hl : vs.length ≤ Ns.length := by rw [← r.length, len ds P1 hS]; exact hn
    exact ht.ls ⟨F1, H, []⟩ F1 H _ _ _ _ (rel_start tb sb r) (start_len hl) (rd ds P1 hS) ⟨fun F' H' σ' ρ' p s R _ => k _ _ F' H' p R.stp rfl, fun x v F' H' σ' ρ' p s R r => k x v F' H' p R.stp r, fun _ _ _ _ p => p.elim, fun _ _ _ _ p => p.elim⟩
end
end Dc

namespace Dc
open PySem PySem.Spec
open PyProof.Rows L2
variable [TabsT]

/-! ### rules whose readings name the written part, not the context (for blocks) -/
section
variable {P : Program} {w : World} {K : PySem.W.Frag} {mg : Str → Option Value} {base : Heap} {X : Cx} {pos p : Pos} {e : Expr} {es : List Expr} {te : TE} {de : DTE} {t : TA} {u : DTA} {ub : DTB}
theorem de_callF {x : Str} {k j : Nat} {S : SD} {dd : List D} (c : Kn P w K mg base k x S dd) (e1 : X.prog = P) (e2 : X.w = w) (e3 : X.K = K) (e4 : X.mg = mg) (e5 : X.base = base) (hr : Room j X.A) (hk : k ≤ j) (hg : Gl X x) (h : DA X (e :: es) t u)
    (hdb : (x == ("__debug__" : Str)) = false := by decide) (he : starEach (e :: es) X.env = (false, eval e X.env) :: starEach es X.env := by rfl) (hpl : (backTo pos (starEach es X.env)).any (·.1) = false := by rfl) :
    DE X (.Call (.Name x p) (e :: es) [] pos) (tCall (spD ⟨K, w⟩ S) (dd.map flatV) E0 t) (dCall S dd u) := by
  subst e1 e2 e3 e4 e5
  exact de_call c hr hk hg h hdb he hpl
theorem de_callBF {x : Str} {k j : Nat} {S : SD} {dd : List D} (c : Kn P w K mg base k x S dd) (e1 : X.prog = P) (e2 : X.w = w) (e3 : X.K = K) (e4 : X.mg = mg) (e5 : X.base = base) (hr : Room j X.A) (hk : k ≤ j) (hg : Gl X x) (h : DB X (e :: es) t ub)
    (hdb : (x == ("__debug__" : Str)) = false := by decide) (he : starEach (e :: es) X.env = (false, eval e X.env) :: starEach es X.env := by rfl) (hpl : (backTo pos (starEach es X.env)).any (·.1) = false := by rfl) :
    DE X (.Call (.Name x p) (e :: es) [] pos) (tCall (spD ⟨K, w⟩ S) (dd.map flatV) E0 t) (dCallB S dd ub) := by
  subst e1 e2 e3 e4 e5
  exact de_callB c hr hk hg h hdb he hpl
theorem de_propF {C : Addr} {g : Str} {j k : Nat} {S : SD} (c : KnP P w K mg base k C g S) (e1 : X.prog = P) (e2 : X.w = w) (e3 : X.K = K) (e4 : X.mg = mg) (e5 : X.base = base) (hr : Room j X.A) (hk : k + 1 ≤ j) (h : DE X e te de) (hb : attributeBase e g X.env (eval e X.env) = eval e X.env := by rfl) :
    DE X (.Attribute e g pos) (tProp C (spD ⟨K, w⟩ S) [] E0 te) (dProp C S de) := by
  subst e1 e2 e3 e4 e5
  exact de_prop c hr hk h hb
theorem dg_tupF {es : List Expr} {k : Nat} {gs : TGs} {w : DTGs} {is : List Nat} {n : Nat} (e3 : X.K = K) (hc : X.calm = true) (h : DGs X es gs w is) (hn : (assignEach es X.env).length = n := by rfl) (hst : (assignEach es X.env).findIdx? (·.1) = none := by rfl) :
    DG X (.Tuple es k pos) (gTup K n gs) (gTupD n w) is := by
  subst e3
  exact dg_tup hc h hn hst
end
end Dc

namespace Dc
open PySem PySem.Spec
open PyProof.Rows L2
/-! ### the head's facts: defs at any address, one Bool more, empty tables apart -/
structure Say (fa : List He.Fa) (fn : List He5.DefA) (tf : List He.Defn) (ex : PySem.W.Frag → Bool) (h : Heap) (K : PySem.W.Frag) : Prop where
  d : He5.SaysA fa fn K
  more : ex K = true
  hd : ∀ p ∈ tf, PySem.W.codeHdIn K (He.cT K p).1 (He.cT K p).2 = true
  out : ∀ p ∈ tf, K.lookup (He.cT K p).2 = none
  nil : ∀ p ∈ tf, h.get? (He.cT K p).2 = some { cls := .none, data := .fields #[] }
abbrev AlZ : Type := He.AlD × Bool
def kZ (g : Addr → Option Obj) (n : Nat) : PySem.W.Frag := He.frT g (He5.asA g n)
def obsZ (fa : List He.Fa) (fn : List He5.DefA) (tf : List He.Defn) (ex : PySem.W.Frag → Bool) (g : Addr → Option Obj) (K : PySem.W.Frag) : AlZ := (He5.obsA fa fn K, ex K && He.tabsB g tf K)
theorem say_of {n : Nat} {fa : List He.Fa} {fn : List He5.DefA} {tf : List He.Defn} {ex : PySem.W.Frag → Bool} {h : Heap} (e : obsZ fa fn tf ex h.get? (kZ h.get? n) = (He5.valA fn, true)) : Say fa fn tf ex h (kZ h.get? n) := by
  have e1 : He5.obsA fa fn (kZ h.get? n) = He5.valA fn := congrArg (fun z : AlZ => z.1) e
  have e2 : (ex (kZ h.get? n) && He.tabsB h.get? tf (kZ h.get? n)) = true := congrArg (fun z : AlZ => z.2) e
  rw [Bool.and_eq_true] at e2
  have key : ∀ p ∈ tf, PySem.W.codeHdIn (kZ h.get? n) (He.cT (kZ h.get? n) p).1 (He.cT (kZ h.get? n) p).2 = true ∧ ∃ o, h.get? (He.cT (kZ h.get? n) p).2 = some o ∧ He.emptyTab o = true := by
    intro p hp
    have z := List.all_eq_true.mp e2.2 p hp
    rw [Bool.and_eq_true] at z
    refine ⟨z.1, ?_⟩
    have z2 := z.2
    generalize h.get? (He.cT (kZ h.get? n) p).2 = r at z2 ⊢
    cases r with
    | none => exact absurd z2 (by decide)
    | some o => exact ⟨o, rfl, z2⟩
  refine ⟨e1, e2.1, fun p hp => (key p hp).1, fun p hp => ?_, fun p hp => ?_⟩
  · obtain ⟨o, a, b⟩ := (key p hp).2
    exact He.frT_none a b
  · obtain ⟨o, a, b⟩ := (key p hp).2
    rw [a, He.emptyTab_eq b]
def hookZ (n : Nat) (fa : List He.Fa) (fn : List He5.DefA) (tf : List He.Defn) (ex : PySem.W.Frag → Bool) : PySem.W.Hook where
  α := AlZ
  obs s := obsZ fa fn tf ex s.heap.get? (kZ s.heap.get? n)
  val _ := (He5.valA fn, true)
  says _ h := ∃ K : PySem.W.Frag, K.In h ∧ Say fa fn tf ex h K
  of _ _ e := ⟨_, He.frT_in, say_of e⟩
  keeps _ _ _ z k := by
    obtain ⟨K, hK, c⟩ := z
    exact ⟨K, PySem.W.Frag.In.keeps hK k, c.d, c.more, c.hd, c.out, fun p hp => k _ _ (c.nil p hp)⟩
def obZ (n : Nat) (fa : List He.Fa) (fn : List He5.DefA) (tf : List He.Defn) (ex : PySem.W.Frag → Bool) (s : PySem.W.SharedT) : AlZ := obsZ fa fn tf ex (HandSHeadRun.getT s) (kZ (HandSHeadRun.getT s) n)
theorem obZ_eq {n : Nat} {fa : List He.Fa} {fn : List He5.DefA} {tf : List He.Defn} {ex : PySem.W.Frag → Bool} (s : PySem.W.SharedT) : obZ n fa fn tf ex s = (hookZ n fa fn tf ex).obs s.abs := by
  have e : HandSHeadRun.getT s = s.abs.heap.get? := funext (HandSHeadRun.getT_eq s)
  unfold obZ
  rw [e]
  rfl
/-! ### facts of a class, of tuples of the top -/
/-- a property's getter -/
def pgt (x f : Str) (K : PySem.W.Frag) : Addr := match PySem.W.recIn K (He.ma K (He.ga K x) f) "property" with
  | some (.ref g :: _) => g
  | _ => 0
def propB (K : PySem.W.Frag) (x f : Str) : Bool := He.eqO (PySem.W.findIn K (.ref (He.ga K x)) f) (some (some (.ref (He.ma K (He.ga K x) f)))) && (He.eqO (PySem.W.specialIn K (.ref (He.ma K (He.ga K x) f)) "__get__") (some (some (.builtin "property.__get__"))) &&
  (decide (PySem.W.takesIn K (.ref (He.ma K (He.ga K x) f)) = some true) && (match PySem.W.recIn K (He.ma K (He.ga K x) f) "property" with
    | some (.ref _ :: _) => true
    | _ => false)))
theorem propB_ok {K : PySem.W.Frag} {x f : Str} (h : propB K x f = true) : PropOf K (He.ga K x) f (He.ma K (He.ga K x) f) (pgt x f K) := by
  unfold propB at h
  simp only [Bool.and_eq_true] at h
  obtain ⟨a, b, c, d⟩ := h
  refine ⟨He.eqO_ok a, He.eqO_ok b, of_decide_eq_true c, ?_⟩
  unfold pgt
  generalize PySem.W.recIn K (He.ma K (He.ga K x) f) "property" = r at d ⊢
  match r, d with
  | some (.ref g :: rest), _ => exact ⟨rest, rfl⟩
def clsB (K : PySem.W.Frag) (x : Str) : Bool := He.eqO (PySem.W.findIn K (.ref (He.ga K x)) "__class__") (some (some (.builtin "object.__class__"))) && (He.eqO (PySem.W.specialIn K (.builtin "object.__class__") "__get__") (some (some (.builtin "getset_descriptor.__get__"))) &&
  (decide (PySem.W.takesIn K (.builtin "object.__class__") = some true) && decide (PySem.W.mroIn K (He.ga K x) (.type "object") = some true)))
theorem clsB_ok {K : PySem.W.Frag} {x : Str} (c : Cls K (He.ga K x)) (h : clsB K x = true) : ClsI K (He.ga K x) := by
  unfold clsB at h
  simp only [Bool.and_eq_true] at h
  obtain ⟨a, b, d, e⟩ := h
  exact ⟨c, He.eqO_ok a, He.eqO_ok b, of_decide_eq_true d, of_decide_eq_true e⟩
/-- the i-th item of the tuple at a, if it is an object -/
def itAt (a : PySem.W.Frag → Addr) (i : Nat) (K : PySem.W.Frag) : Addr := match K.lookup (a K) with
  | some ⟨_, _, .seq its _, _⟩ => (match its.toList[i]? with
    | some (.ref b) => b
    | _ => 0)
  | _ => 0
def tpB (K : PySem.W.Frag) (a : Addr) (vs : List V) : Bool := match K.lookup a with
  | some ⟨.type c, _, .seq its _, _⟩ => decide (c = "tuple" ∧ its.size ≤ sizeLine) && He.relAll vs its.toList
  | _ => false
theorem tpB_ok {K : PySem.W.Frag} {a : Addr} {vs : List V} (h : tpB K a vs = true) (H : Hp) : SqT K H a vs := by
  unfold tpB at h
  split at h
  · rename_i c od its n osl e
    rw [Bool.and_eq_true, decide_eq_true_eq] at h
    obtain ⟨⟨rfl, h2⟩, h3⟩ := h
    exact .inr ⟨_, its, n, e, rfl, rfl, h2, He.relAll_ok h3⟩
  · exact absurd h (by decide)
end Dc

namespace K33
open PySem PySem.Spec PyProof.Rows L2 Dc
/-! what the defs compute, over data -/
abbrev natD (n : Nat) : D := .int (n : Int)
abbrev psD (ps : List Nat) : D := .tup (ps.map natD)
abbrev lsD (ps : List Nat) : D := .lst (ps.map natD)
/-- a watch: rows of places, words -/
structure Wt where
  mv : List (List Nat)
  wd : List Nat
structure Wt.Ok (W : Wt) (k : Nat) : Prop where
  n1 : 1 ≤ W.mv.length
  n6 : W.mv.length ≤ 6
  row : ∀ r ∈ W.mv, r.length = k ∧ ∀ x ∈ r, x < W.mv.length
  k1 : 1 ≤ k
  k4 : k ≤ 4
  wl : W.wd.length = W.mv.length
  w3 : ∀ x ∈ W.wd, x ≤ 3
abbrev mvD (W : Wt) : D := .tup (W.mv.map psD)
abbrev wD (C : Addr) (W : Wt) : D := .ins C ["own_moves", "own_words"] [mvD W, psD W.wd]
def go (W : Wt) (p k : Nat) : Nat := (W.mv.getD p []).getD k 0
def wo (W : Wt) (p : Nat) : Nat := W.wd.getD p 0
abbrev modeD (m : Bool) : D := .str (if m then "counted" else "lost")
abbrev itD : Option Nat → D
  | none => .non
  | some k => natD k
abbrev shD (s : List (Option Nat)) : D := .lst (s.map itD)
structure Sh (K : Nat) (s : List (Option Nat)) : Prop where
  ln : s.length ≤ 300
  kd : ∀ k, some k ∈ s → k < K
/-- strictly sorted, these members -/
structure SetIs (qs : List Nat) (φ : Nat → Prop) : Prop where
  so : qs.Pairwise (· < ·)
  me : ∀ q, q ∈ qs ↔ φ q
structure Ps (W : Wt) (ps : List Nat) : Prop where
  so : ps.Pairwise (· < ·)
  lt : ∀ p ∈ ps, p < W.mv.length
abbrev prD (p : Nat × Nat) : D := .tup [natD p.1, natD p.2]
abbrev prsD (l : List (Nat × Nat)) : D := .tup (l.map prD)
structure Prs (V W : Wt) (l : List (Nat × Nat)) : Prop where
  nd : l.Nodup
  lt : ∀ p ∈ l, p.1 < V.mv.length ∧ p.2 < W.mv.length
structure PairsIs (l : List (Nat × Nat)) (φ : Nat × Nat → Prop) : Prop where
  nd : l.Nodup
  me : ∀ q, q ∈ l ↔ φ q
inductive Star {α : Type} (r : α → α → Prop) (φ : α → Prop) : α → Prop
  | base {p : α} : φ p → Star r φ p
  | step {p q : α} : Star r φ p → r p q → Star r φ q
def stepW (W : Wt) (K : Nat) (p q : Nat) : Prop := ∃ k, k < K ∧ go W p k = q
def stepP (V W : Wt) (K : Nat) (p q : Nat × Nat) : Prop := ∃ k, k < K ∧ (go V p.1 k, go W p.2 k) = q
/-- behind an item -/
def behW (W : Wt) (K : Nat) (m : Bool) (φ : Nat → Prop) (it : Option Nat) : Nat → Prop := match it with
  | some k => fun q => ∃ p, φ p ∧ go W p k = q
  | none => if m then fun q => ∃ p, φ p ∧ stepW W K p q else Star (stepW W K) φ
def behP (V W : Wt) (K : Nat) (m : Bool) (φ : Nat × Nat → Prop) (it : Option Nat) : Nat × Nat → Prop := match it with
  | some k => fun q => ∃ p, φ p ∧ (go V p.1 k, go W p.2 k) = q
  | none => if m then fun q => ∃ p, φ p ∧ stepP V W K p q else Star (stepP V W K) φ
def ledW (W : Wt) (K : Nat) (m : Bool) (s : List (Option Nat)) : Nat → Prop := s.foldl (behW W K m) (fun p => p = 0)
def ledP (V W : Wt) (K : Nat) (m : Bool) (s : List (Option Nat)) : Nat × Nat → Prop := s.foldl (behP V W K m) (fun p => p = (0, 0))
/-! the promises -/
def S_is_number : SD := fun ds P => ∃ i, ds = [.int i] ∧ P (.bl true)
def S_is_between : SD := fun ds P => ∃ i lo hi, ds = [.int i, .int lo, .int hi] ∧ P (.bl (decide (lo ≤ i ∧ i ≤ hi)))
def S_is_list : SD := fun ds P => ∃ xs, (ds = [.lst xs] ∨ ds = [.tup xs]) ∧ P (.bl true)
def S_mode_right : SD := fun ds P => ∃ m, ds = [modeD m] ∧ P (.bl true)
def S_need_mode : SD := fun ds P => ∃ m, ds = [modeD m] ∧ P .non
def S_is_word : SD := fun ds P => ∃ i, ds = [.int i] ∧ P (.bl (decide (0 ≤ i ∧ i ≤ 3)))
def S_first_wrong (f : Addr) : SD := fun ds P => ∃ ns : List Nat, ds = [lsD ns, .rf f] ∧ ns.length ≤ 6 ∧ (∀ n ∈ ns, n ≤ 3) ∧ P .non
def S_is_line : SD := fun ds P => ∃ (ns : List Nat) (p : Nat), ds = [lsD ns, natD ns.length, natD p] ∧ ns.length ≤ 4 ∧ (∀ n ∈ ns, n < p) ∧ P (.bl true)
def S_need_moves : SD := fun ds P => ∃ W k, Wt.Ok W k ∧ ds = [.lst (W.mv.map lsD)] ∧ P .non
def S_need_words : SD := fun ds P => ∃ ws : List Nat, ds = [lsD ws, natD ws.length] ∧ ws.length ≤ 6 ∧ (∀ x ∈ ws, x ≤ 3) ∧ P .non
def S_init (C : Addr) : SM := fun x0 ds P => ∃ W k, Wt.Ok W k ∧ x0 = .ins C [] [] ∧ ds = [.lst (W.mv.map lsD), lsD W.wd] ∧ P .non (wD C W)
def S_moves (C : Addr) : SD := fun ds P => ∃ W, ds = [wD C W] ∧ P (mvD W)
def S_words (C : Addr) : SD := fun ds P => ∃ W, ds = [wD C W] ∧ P (psD W.wd)
def S_kinds (C : Addr) : SD := fun ds P => ∃ W k, Wt.Ok W k ∧ ds = [wD C W] ∧ P (natD k)
def S_need_watch (C : Addr) : SD := fun ds P => ∃ W d, ds = [wD C W, d] ∧ P .non
def S_need_shown (C : Addr) : SD := fun ds P => ∃ W k s, Wt.Ok W k ∧ Sh k s ∧ ds = [wD C W, shD s] ∧ P .non
def S_known_by (C : Addr) : SD := fun ds P => ∃ W K ps k, Wt.Ok W K ∧ Ps W ps ∧ k < K ∧ ds = [wD C W, psD ps, natD k] ∧ ∀ qs, SetIs qs (behW W K true (· ∈ ps) (some k)) → P (psD qs)
def S_next_by (C : Addr) : SD := fun ds P => ∃ W K ps, Wt.Ok W K ∧ Ps W ps ∧ ds = [wD C W, psD ps] ∧ ∀ qs, SetIs qs (behW W K true (· ∈ ps) none) → P (psD qs)
def S_reached_by (C : Addr) : SD := fun ds P => ∃ W K ps, Wt.Ok W K ∧ Ps W ps ∧ ds = [wD C W, psD ps] ∧ ∀ qs, SetIs qs (behW W K false (· ∈ ps) none) → P (psD qs)
def S_unknown_by (C : Addr) : SD := fun ds P => ∃ W K m ps, Wt.Ok W K ∧ Ps W ps ∧ ds = [wD C W, psD ps, modeD m] ∧ ∀ qs, SetIs qs (behW W K m (· ∈ ps) none) → P (psD qs)
def S_behind_by (C : Addr) : SD := fun ds P => ∃ W K m ps it, Wt.Ok W K ∧ Ps W ps ∧ (∀ k, it = some k → k < K) ∧ ds = [wD C W, psD ps, itD it, modeD m] ∧ ∀ qs, SetIs qs (behW W K m (· ∈ ps) it) → P (psD qs)
def S_led_by (C : Addr) : SD := fun ds P => ∃ W K m s, Wt.Ok W K ∧ Sh K s ∧ ds = [wD C W, shD s, modeD m] ∧ ∀ qs, SetIs qs (ledW W K m s) → P (psD qs)
def S_can_lead (C : Addr) : SD := S_led_by C
def S_pair_behind (C : Addr) : SD := fun ds P => ∃ V W K p k, Wt.Ok V K ∧ Wt.Ok W K ∧ p.1 < V.mv.length ∧ p.2 < W.mv.length ∧ k < K ∧ ds = [wD C V, wD C W, prD p, natD k] ∧ P (prD (go V p.1 k, go W p.2 k))
def S_pairs_known (C : Addr) : SD := fun ds P => ∃ V W K ps k, Wt.Ok V K ∧ Wt.Ok W K ∧ Prs V W ps ∧ k < K ∧ ds = [wD C V, wD C W, prsD ps, natD k] ∧ ∀ qs, PairsIs qs (behP V W K true (· ∈ ps) (some k)) → P (prsD qs)
def S_pairs_next (C : Addr) : SD := fun ds P => ∃ V W K ps, Wt.Ok V K ∧ Wt.Ok W K ∧ Prs V W ps ∧ ps ≠ [] ∧ ds = [wD C V, wD C W, prsD ps] ∧ ∀ qs, PairsIs qs (behP V W K true (· ∈ ps) none) → P (prsD qs)
def S_pairs_reached (C : Addr) : SD := fun ds P => ∃ V W K ps, Wt.Ok V K ∧ Wt.Ok W K ∧ Prs V W ps ∧ ps ≠ [] ∧ ds = [wD C V, wD C W, prsD ps] ∧ ∀ qs, PairsIs qs (behP V W K false (· ∈ ps) none) → P (prsD qs)
def S_both_behind (C : Addr) : SD := fun ds P => ∃ V W K m ps it, Wt.Ok V K ∧ Wt.Ok W K ∧ Prs V W ps ∧ ps ≠ [] ∧ (∀ k, it = some k → k < K) ∧ ds = [wD C V, wD C W, prsD ps, itD it, modeD m] ∧ ∀ qs, PairsIs qs (behP V W K m (· ∈ ps) it) → P (prsD qs)
def S_need_told (C : Addr) : SD := fun ds P => ∃ V W K, Wt.Ok V K ∧ Wt.Ok W K ∧ ds = [wD C V, wD C W] ∧ P .non
def S_both_by (C : Addr) : SD := fun ds P => ∃ V W K m s, Wt.Ok V K ∧ Wt.Ok W K ∧ Sh K s ∧ ds = [wD C V, wD C W, shD s, modeD m] ∧ ∀ qs, PairsIs qs (ledP V W K m s) → P (prsD qs)
def S_words_kept (C : Addr) : SD := fun ds P => ∃ V W K ps, Wt.Ok V K ∧ Wt.Ok W K ∧ Prs V W ps ∧ ds = [wD C W, prsD ps] ∧ ∀ ws, SetIs ws (fun x => ∃ p ∈ ps, wo W p.2 = x) → P (psD ws)
def S_leak_by (C : Addr) : SD := fun ds P => ∃ V W K m s, Wt.Ok V K ∧ Wt.Ok W K ∧ Sh K s ∧ ds = [wD C V, wD C W, shD s, modeD m] ∧ ∀ ws, SetIs ws (fun x => ∃ p, ledP V W K m s p ∧ wo W p.2 = x) → P (psD ws)
def S_need_told_shown (C : Addr) : SD := fun ds P => ∃ V W K m s, Wt.Ok V K ∧ Wt.Ok W K ∧ Sh K s ∧ ds = [wD C V, wD C W, shD s, modeD m] ∧ P .non
def S_both_lead (C : Addr) : SD := S_both_by C
def S_leak (C : Addr) : SD := S_leak_by C
/-! weights -/
structure Wts (K : Nat) (ws : List Nat) : Prop where
  ln : ws.length = K
  bd : ∀ x ∈ ws, 1 ≤ x ∧ x ≤ 1000000
abbrev kI (n : Nat) : Key := .inl (n : Int)
/-- a dict of numbers: keys, what they hold -/
abbrev dkF (ns : List Nat) (f : Nat → Nat) : D := .dk (ns.map kI) (ns.map fun n => natD (f n))
abbrev frD (a b : Nat) : D := .tup [natD (a / a.gcd b), natD (b / a.gcd b)]
/-! the law's helpers -/
abbrev twD (W : Wt) : D := .tup [mvD W, psD W.wd]
def walkW (W : Wt) (row : List Nat) : Nat := row.foldl (go W) 0
def S__law_draw (T : D) : SD := fun ds P => ∃ n : Nat, ds = [T, natD n] ∧ 0 < n ∧ n < 2 ^ 100 ∧ ∀ r : Nat, r < n → P (natD r)
def S__law_pick (T : D) : SD := fun ds P => ∃ xs : List Nat, ds = [T, lsD xs] ∧ 0 < xs.length ∧ xs.length < 1000 ∧ ∀ x, x ∈ xs → P (natD x)
def S__law_watch (T : D) : SD := fun ds P => ∃ n K w : Nat, ds = [T, natD n, natD K, natD w] ∧ 1 ≤ n ∧ n ≤ 6 ∧ 1 ≤ K ∧ K ≤ 4 ∧ 1 ≤ w ∧ w ≤ 4 ∧ ∀ W, Wt.Ok W K → W.mv.length ≤ n → (∀ x ∈ W.wd, x < w) → P (twD W)
def S__law_made (C : Addr) : SD := fun ds P => ∃ W K, Wt.Ok W K ∧ ds = [twD W] ∧ P (wD C W)
def S__law_row (T : D) : SD := fun ds P => ∃ (W : Wt) (K n : Nat), Wt.Ok W K ∧ n ≤ 200 ∧ ds = [T, twD W, natD n] ∧ ∀ row : List Nat, row.length ≤ n → (∀ x ∈ row, x < K) → P (psD row)
def S__law_place : SD := fun ds P => ∃ (W : Wt) (K : Nat) (row : List Nat), Wt.Ok W K ∧ (∀ x ∈ row, x < K) ∧ ds = [twD W, psD row] ∧ P (natD (walkW W row))
def S__law_weights (T : D) : SD := fun ds P => ∃ K : Nat, K ≤ 4 ∧ ds = [T, natD K] ∧ ∀ ws : List Nat, ws.length = K → (∀ x ∈ ws, 1 ≤ x ∧ x ≤ 30) → P (lsD ws)
def S__law_blend (P : Program) (K : KW) : SM := fun x0 ds Q => ∃ l c cs, ∃ r t : Int, x0 = tapeX P K l c cs r t ∧ ds = [] ∧ nat0 cs ∧ 0 ≤ r ∧ 0 ≤ t ∧ ∀ n t' : Int, 0 ≤ n → 0 ≤ t' → Q (.int n) (tapeX P K l c cs r t')
end K33

namespace K33
open PySem PySem.Spec PyProof.Rows L2 Dc
/-! data lemmas -/
theorem getMap {α β : Type} {f : α → β} {l : List α} {i : Nat} {x : β} (h : (l.map f)[i]? = some x) : ∃ a, l[i]? = some a ∧ x = f a := by
  rw [List.getElem?_map] at h
  obtain ⟨a, ha, e⟩ := Option.map_eq_some_iff.mp h
  exact ⟨a, ha, e.symm⟩
theorem takeS {α : Type} {l : List α} {i : Nat} {a : α} (h : l[i]? = some a) : l.take (i + 1) = l.take i ++ [a] := by rw [List.take_add_one, h]; rfl
theorem mem_of {α : Type} {l : List α} {i : Nat} {a : α} (h : l[i]? = some a) : a ∈ l := List.mem_of_getElem? h
theorem toPys_map {α : Type} (f : α → D) (g : α → PyData) (h : ∀ a, toPy (f a) = some (g a)) : ∀ l : List α, toPys (l.map f) = some (l.map g)
  | [] => rfl
  | a :: l => by
    show (toPy (f a)).bind _ = _
    rw [h a]
    show (toPys (l.map f)).map _ = _
    rw [toPys_map f g h l]
    rfl
theorem pyM {α : Type} (f : α → D) (g : α → PyData) (h : ∀ a, toPy (f a) = some (g a)) (l : List α) : (l.map f).map Dc.py = l.map g := by
  rw [List.map_map]
  refine List.map_congr_left fun a _ => ?_
  show (toPy (f a)).getD .none = _
  rw [h a]; rfl
theorem py_nat (n : Nat) : toPy (natD n) = some (.int n) := rfl
theorem py_pr (p : Nat × Nat) : toPy (prD p) = some (.tuple [.int p.1, .int p.2]) := rfl
theorem sort_nats {ns : List Nat} (nd : ns.Nodup) (hl : ns.length ≤ sizeLine) : SortOk (ns.map natD) ∧ ∃ qs : List Nat, (ns.map natD).mergeSort leD = qs.map natD ∧ qs.Pairwise (· < ·) ∧ ∀ q, q ∈ qs ↔ q ∈ ns := by
  refine ⟨⟨⟨_, toPys_map natD (fun n => .int n) py_nat ns⟩, ?_, ?_, fun x hx => ?_, by simpa using hl⟩, ?_⟩
  · rw [pyM natD _ py_nat]
    intro d hd d' hd'
    obtain ⟨a, _, rfl⟩ := List.mem_map.mp hd
    obtain ⟨b, _, rfl⟩ := List.mem_map.mp hd'
    rfl
  · rw [pyM natD _ py_nat]
    refine .inr fun d hd => ?_
    obtain ⟨a, _, rfl⟩ := List.mem_map.mp hd
    exact ⟨fun e => (by cases e), fun xs e => (by cases e)⟩
  · obtain ⟨a, _, rfl⟩ := List.mem_map.mp hx
    exact Nat.zero_le _
  · let le : Nat → Nat → Bool := fun a b => decide (a ≤ b)
    have hle : ∀ a b : Nat, leD (natD a) (natD b) = le a b := fun a b => by
      show PySem.W.dataLe false Dc.py _ _ = _
      show (!PySem.W.dataLt (.int (b : Int)) (.int (a : Int))) = _
      rw [PySem.W.dataLt_int, PySem.W.not_lt_int]
      show decide ((a : Int) ≤ b) = decide (a ≤ b)
      simp
    refine ⟨ns.mergeSort le, ?_, ?_, fun q => List.mem_mergeSort⟩
    · rw [List.map_mergeSort (s := leD)]
      intro a _ b _
      exact (hle a b).symm
    · have h1 : (ns.mergeSort le).Pairwise fun a b => le a b = true := List.pairwise_mergeSort (fun a b c h1 h2 => by simp [le] at *; omega) (fun a b => by simp [le]; omega) ns
      have h2 : (ns.mergeSort le).Nodup := (List.mergeSort_perm ns le).nodup_iff.mpr nd
      refine (h1.and h2).imp fun {a b} ⟨x, y⟩ => ?_
      simp [le] at x
      omega
theorem sort_prs {l : List (Nat × Nat)} (hl : l.length ≤ sizeLine) : SortOk (l.map prD) ∧ ∃ qs : List (Nat × Nat), (l.map prD).mergeSort leD = qs.map prD ∧ qs.Perm l := by
  refine ⟨⟨⟨_, toPys_map prD _ py_pr l⟩, ?_, ?_, fun x hx => ?_, by simpa using hl⟩, ?_⟩
  · rw [pyM prD _ py_pr]
    intro d hd d' hd'
    obtain ⟨a, _, rfl⟩ := List.mem_map.mp hd
    obtain ⟨b, _, rfl⟩ := List.mem_map.mp hd'
    rfl
  · rw [pyM prD _ py_pr]
    refine .inl fun d hd => ?_
    obtain ⟨a, _, rfl⟩ := List.mem_map.mp hd
    exact ⟨_, _, rfl⟩
  · obtain ⟨a, _, rfl⟩ := List.mem_map.mp hx
    show PyData.depth (.tuple [.int (a.1 : Int), .int (a.2 : Int)]) ≤ 32
    have e : PyData.depth (.tuple [.int (a.1 : Int), .int (a.2 : Int)]) = PyData.depth (.tuple [.int 0, .int 0]) := rfl
    rw [e]
    decide
  · refine ⟨l.mergeSort fun a b => leD (prD a) (prD b), ?_, List.mergeSort_perm _ _⟩
    rw [List.map_mergeSort (s := leD)]
    intro a _ b _
    rfl
theorem getEnum {α : Type} {f : α → D} {l : List α} {i : Nat} {x : D} (h : (enumD (l.map f))[i]? = some x) : ∃ a, l[i]? = some a ∧ x = .tup [.int (i : Nat), f a] := by
  unfold enumD at h
  rw [List.getElem?_map, List.getElem?_zipIdx, List.getElem?_map] at h
  cases e : l[i]? with
  | none => rw [e] at h; cases h
  | some a =>
    rw [e] at h
    refine ⟨a, rfl, ?_⟩
    have := Option.some.inj h
    rw [← this]
    simp
/-! places stay in range -/
theorem getD_at {α : Type} {l : List α} {i : Nat} {d : α} (h : i < l.length) : l.getD i d = l[i] := by
  rw [List.getD_eq_getElem?_getD, List.getElem?_eq_getElem h]
  rfl
theorem go_lt {W : Wt} {K p k : Nat} (ok : W.Ok K) (hp : p < W.mv.length) (hk : k < K) : go W p k < W.mv.length := by
  unfold go
  rw [getD_at hp]
  obtain ⟨h1, h2⟩ := ok.row _ (List.getElem_mem hp)
  rw [getD_at (by rw [h1]; exact hk)]
  exact h2 _ (List.getElem_mem _)
theorem star_ind {α : Type} {r : α → α → Prop} {φ ψ : α → Prop} (h0 : ∀ p, φ p → ψ p) (h1 : ∀ p q, ψ p → r p q → ψ q) {q : α} (h : Star r φ q) : ψ q := by
  induction h with
  | base h => exact h0 _ h
  | step _ r ih => exact h1 _ _ ih r
theorem behW_lt {W : Wt} {K : Nat} {m : Bool} {φ : Nat → Prop} {it : Option Nat} (ok : W.Ok K) (hk : ∀ k, it = some k → k < K) (h : ∀ p, φ p → p < W.mv.length) : ∀ q, behW W K m φ it q → q < W.mv.length := by
  intro q hq
  cases it with
  | some k => obtain ⟨p, hp, e⟩ := hq; rw [← e]; exact go_lt ok (h p hp) (hk k rfl)
  | none =>
    cases m with
    | true => obtain ⟨p, hp, k, hk, e⟩ := hq; rw [← e]; exact go_lt ok (h p hp) hk
    | false => exact star_ind (ψ := fun q => q < W.mv.length) h (fun p q hp ⟨k, hk, e⟩ => by rw [← e]; exact go_lt ok hp hk) hq
theorem behP_lt {V W : Wt} {K : Nat} {m : Bool} {φ : Nat × Nat → Prop} {it : Option Nat} (okv : V.Ok K) (ok : W.Ok K) (hk : ∀ k, it = some k → k < K) (h : ∀ p, φ p → p.1 < V.mv.length ∧ p.2 < W.mv.length) : ∀ q, behP V W K m φ it q → q.1 < V.mv.length ∧ q.2 < W.mv.length := by
  intro q hq
  cases it with
  | some k => obtain ⟨p, hp, e⟩ := hq; rw [← e]; exact ⟨go_lt okv (h p hp).1 (hk k rfl), go_lt ok (h p hp).2 (hk k rfl)⟩
  | none =>
    cases m with
    | true => obtain ⟨p, hp, k, hk, e⟩ := hq; rw [← e]; exact ⟨go_lt okv (h p hp).1 hk, go_lt ok (h p hp).2 hk⟩
    | false => exact star_ind (ψ := fun q => q.1 < V.mv.length ∧ q.2 < W.mv.length) h (fun p q hp ⟨k, hk, e⟩ => by rw [← e]; exact ⟨go_lt okv hp.1 hk, go_lt ok hp.2 hk⟩) hq
theorem behP_ne {V W : Wt} {K : Nat} {m : Bool} {φ : Nat × Nat → Prop} {it : Option Nat} (k1 : 1 ≤ K) (h : ∃ p, φ p) : ∃ q, behP V W K m φ it q := by
  obtain ⟨p, hp⟩ := h
  cases it with
  | some k => exact ⟨_, p, hp, rfl⟩
  | none =>
    cases m with
    | true => exact ⟨_, p, hp, 0, k1, rfl⟩
    | false => exact ⟨p, .base hp⟩
theorem led_snoc {W : Wt} {K : Nat} {m : Bool} {s : List (Option Nat)} {it : Option Nat} : ledW W K m (s ++ [it]) = behW W K m (ledW W K m s) it := by
  unfold ledW
  rw [List.foldl_append]
  rfl
theorem ledP_snoc {V W : Wt} {K : Nat} {m : Bool} {s : List (Option Nat)} {it : Option Nat} : ledP V W K m (s ++ [it]) = behP V W K m (ledP V W K m s) it := by
  unfold ledP
  rw [List.foldl_append]
  rfl
theorem SetIs.eq {qs : List Nat} {φ : Nat → Prop} (h : SetIs qs φ) : (fun q => q ∈ qs) = φ := funext fun q => propext (h.me q)
theorem PairsIs.eq {qs : List (Nat × Nat)} {φ : Nat × Nat → Prop} (h : PairsIs qs φ) : (fun q => q ∈ qs) = φ := funext fun q => propext (h.me q)
/-! dict keys -/
theorem int_eq {a b : Nat} : ((a : Int) = (b : Int)) = (a = b) := by
  rw [eq_iff_iff]
  exact ⟨fun h => by omega, fun h => by omega⟩
theorem kI_inj {a b : Nat} : kI a = kI b ↔ a = b := ⟨fun h => by have := Sum.inl.inj h; omega, fun h => by rw [h]⟩
def nput {α : Type} [DecidableEq α] (ns : List α) (n : α) : List α := if n ∈ ns then ns else ns ++ [n]
theorem nput_mem {α : Type} [DecidableEq α] {ns : List α} {n q : α} : q ∈ nput ns n ↔ q ∈ ns ∨ q = n := by
  unfold nput
  split
  · exact ⟨.inl, fun h => h.elim id fun e => by rw [e]; assumption⟩
  · simp
theorem nput_nd {α : Type} [DecidableEq α] {ns : List α} {n : α} (h : ns.Nodup) : (nput ns n).Nodup := by
  unfold nput
  split
  · exact h
  · rename_i q
    rw [List.nodup_append]
    exact ⟨h, by simp, fun a ha b hb => by simp at hb; subst hb; exact fun z => q (z ▸ ha)⟩
theorem hasK_map {ns : List Nat} {n : Nat} : hasK (ns.map kI) (.inl (n : Int)) = decide (n ∈ ns) := by
  unfold hasK
  rw [List.any_map]
  induction ns with
  | nil => simp
  | cons a l ih =>
    rw [List.any_cons, ih]
    have e : decide (kI a = Sum.inl (n : Int)) = decide (n = a) := decide_eq_decide.mpr ((kI_inj (a := a) (b := n)).trans eq_comm)
    show (decide (kI a = Sum.inl (n : Int)) || _) = _
    rw [e]
    simp
theorem dputK_map {ns : List Nat} {n : Nat} : dputK (ns.map kI) (.inl (n : Int)) = (nput ns n).map kI := by
  unfold dputK nput
  rw [hasK_map]
  by_cases h : n ∈ ns <;> simp [h]
theorem keyD_map (ns : List Nat) : (ns.map kI).map keyD = ns.map natD := by rw [List.map_map]; rfl
theorem atI_map {α : Type} {f : α → D} {l : List α} {j : Nat} {a : α} (h : l[j]? = some a) : atI (l.map f) (j : Int) = some (f a) := atI_nat (by rw [List.getElem?_map, h]; rfl)
end K33

namespace K33
open PySem PySem.Spec PyProof.Rows L2 Dc
/-! numbers of rows, pairs and their sides: no program here -/
theorem mul_pos2 {a b : Nat} : 0 < a * b ↔ 0 < a ∧ 0 < b := ⟨fun h => ⟨Nat.pos_of_mul_pos_right h |> fun z => by rcases Nat.eq_zero_or_pos a with e | e; (subst e; simp at h); exact e, by rcases Nat.eq_zero_or_pos b with e | e; (subst e; simp at h); exact e⟩, fun h => Nat.mul_pos h.1 h.2⟩
def sumN (l : List Nat) (g : Nat → Nat) : Nat := (l.map g).sum
theorem sumN_nil {g : Nat → Nat} : sumN [] g = 0 := rfl
theorem sumN_cons {a : Nat} {l : List Nat} {g : Nat → Nat} : sumN (a :: l) g = g a + sumN l g := by simp [sumN]
theorem sumN_append {l m : List Nat} {g : Nat → Nat} : sumN (l ++ m) g = sumN l g + sumN m g := by simp [sumN, List.map_append, List.sum_append]
theorem sumN_one {a : Nat} {g : Nat → Nat} : sumN [a] g = g a := by simp [sumN]
theorem sumN_congr {l : List Nat} {g h : Nat → Nat} (e : ∀ x ∈ l, g x = h x) : sumN l g = sumN l h := by
  unfold sumN
  rw [List.map_congr_left e]
theorem sumN_zero {l : List Nat} {g : Nat → Nat} (e : ∀ x ∈ l, g x = 0) : sumN l g = 0 := by
  induction l with
  | nil => rfl
  | cons a l ih => rw [sumN_cons, e a (List.mem_cons_self ..), ih fun x hx => e x (List.mem_cons_of_mem _ hx)]
theorem sumN_add {l : List Nat} {g h : Nat → Nat} : sumN l (fun x => g x + h x) = sumN l g + sumN l h := by
  induction l with
  | nil => rfl
  | cons a l ih => rw [sumN_cons, sumN_cons, sumN_cons, ih]; omega
theorem sumN_mul {l : List Nat} {g : Nat → Nat} {c : Nat} : sumN l (fun x => c * g x) = c * sumN l g := by
  induction l with
  | nil => rfl
  | cons a l ih => rw [sumN_cons, sumN_cons, ih, Nat.mul_add]
theorem sumN_swap {l m : List Nat} {g : Nat → Nat → Nat} : sumN l (fun x => sumN m (g x)) = sumN m (fun y => sumN l fun x => g x y) := by
  induction l with
  | nil => exact (sumN_zero fun _ _ => rfl).symm
  | cons a l ih =>
    rw [sumN_cons, ih, ← sumN_add]
    exact sumN_congr fun x _ => (sumN_cons (g := fun x_1 => g x_1 x)).symm
theorem sumN_le {l : List Nat} {g : Nat → Nat} {x : Nat} (h : x ∈ l) : g x ≤ sumN l g := by
  induction l with
  | nil => cases h
  | cons a l ih =>
    rw [sumN_cons]
    rcases List.mem_cons.mp h with rfl | z
    · omega
    · have := ih z; omega
theorem sumN_mono {l : List Nat} {g h : Nat → Nat} (e : ∀ x ∈ l, g x ≤ h x) : sumN l g ≤ sumN l h := by
  induction l with
  | nil => exact Nat.le_refl _
  | cons a l ih =>
    rw [sumN_cons, sumN_cons]
    have := e a (List.mem_cons_self ..)
    have := ih fun x hx => e x (List.mem_cons_of_mem _ hx)
    omega
theorem sumN_perm {l m : List Nat} {g : Nat → Nat} (p : l.Perm m) : sumN l g = sumN m g := (p.map g).sum_nat
theorem sumN_pos {l : List Nat} {g : Nat → Nat} : 0 < sumN l g ↔ ∃ x ∈ l, 0 < g x := by
  induction l with
  | nil => simp [sumN]
  | cons a l ih =>
    rw [sumN_cons]
    constructor
    · intro h
      by_cases z : 0 < g a
      · exact ⟨a, List.mem_cons_self .., z⟩
      · obtain ⟨x, hx, hg⟩ := ih.mp (by omega)
        exact ⟨x, List.mem_cons_of_mem _ hx, hg⟩
    · rintro ⟨x, hx, hg⟩
      rcases List.mem_cons.mp hx with rfl | z
      · omega
      · have := ih.mpr ⟨x, z, hg⟩; omega
/-- only these matter -/
theorem sumN_sub {l m : List Nat} {g : Nat → Nat} (nl : l.Nodup) (nm : m.Nodup) (s : ∀ x ∈ l, x ∈ m) (z : ∀ x ∈ m, x ∉ l → g x = 0) : sumN l g = sumN m g := by
  have h1 : l.Perm (m.filter fun x => decide (x ∈ l)) := (List.perm_ext_iff_of_nodup nl (nm.filter _)).mpr fun x => by
    rw [List.mem_filter]
    simp only [decide_eq_true_eq]
    exact ⟨fun h => ⟨s x h, h⟩, fun h => h.2⟩
  rw [sumN_perm h1]
  clear h1 nl s nm
  induction m with
  | nil => rfl
  | cons a m ih =>
    rw [List.filter_cons]
    by_cases h : a ∈ l
    · rw [if_pos (by simpa using h), sumN_cons, sumN_cons, ih fun x hx => z x (List.mem_cons_of_mem _ hx)]
    · rw [if_neg (by simpa using h), sumN_cons, ih fun x hx => z x (List.mem_cons_of_mem _ hx), z a (List.mem_cons_self ..) h, Nat.zero_add]
theorem sumN_range {l : List Nat} {n : Nat} {g : Nat → Nat} (nl : l.Nodup) (s : ∀ x ∈ l, x < n) (z : ∀ x, x ∉ l → g x = 0) : sumN l g = sumN (List.range n) g :=
  sumN_sub nl List.nodup_range (fun x h => List.mem_range.mpr (s x h)) fun x _ h => z x h
theorem sumN_at {n j : Nat} {v : Nat} (h : j < n) : sumN (List.range n) (fun x => if x = j then v else 0) = v := by
  rw [← sumN_range (l := [j]) (by simp) (by simpa using h) (fun x hx => by simp at hx; rw [if_neg hx]), sumN_one, if_pos rfl]
theorem sumN_at' {n j : Nat} {v : Nat} (h : j < n) : sumN (List.range n) (fun x => if j = x then v else 0) = v := by
  refine (sumN_congr fun x _ => ?_).trans (sumN_at (v := v) h)
  by_cases e : x = j
  · rw [if_pos e, if_pos e.symm]
  · rw [if_neg e, if_neg (Ne.symm e)]
theorem sumN_list {l : List Nat} : sumN (List.range l.length) (fun k => l.getD k 0) = l.sum := by
  unfold sumN
  congr 1
  refine List.ext_getElem (by simp) fun i h1 h2 => ?_
  simp [h2]
/-! numbers of the rows that agree -/
def wtO (ws : List Nat) : Option Nat → Nat → Nat
  | none, k => ws.getD k 0
  | some j, k => if k = j then 1 else 0
def numStep (W : Wt) (ws : List Nat) (K : Nat) (f : Nat → Nat) (it : Option Nat) : Nat → Nat := fun q => sumN (List.range W.mv.length) fun p => sumN (List.range K) fun k => if go W p k = q then f p * wtO ws it k else 0
def num0 (p : Nat) : Nat := if p = 0 then 1 else 0
def numW (W : Wt) (ws : List Nat) (K : Nat) (s : List (Option Nat)) : Nat → Nat := s.foldl (numStep W ws K) num0
def unk (s : List (Option Nat)) : Nat := (s.filter fun x => x.isNone).length
def wordW (W : Wt) (f : Nat → Nat) (x : Nat) : Nat := sumN (List.range W.mv.length) fun p => if wo W p = x then f p else 0
theorem wtO_some {ws : List Nat} {j k : Nat} : wtO ws (some j) k = if k = j then 1 else 0 := rfl
theorem numW_snoc {W : Wt} {ws : List Nat} {K : Nat} {s : List (Option Nat)} {it : Option Nat} : numW W ws K (s ++ [it]) = numStep W ws K (numW W ws K s) it := by
  unfold numW
  rw [List.foldl_append]
  rfl
theorem snoc_ind {α : Type} {C : List α → Prop} (h0 : C []) (h1 : ∀ l a, C l → C (l ++ [a])) (l : List α) : C l := by
  have : ∀ m : List α, C m.reverse := fun m => by
    induction m with
    | nil => exact h0
    | cons a m ih => rw [List.reverse_cons]; exact h1 _ _ ih
  have e := this l.reverse
  rwa [List.reverse_reverse] at e
theorem Wts.pos {K : Nat} {ws : List Nat} (h : Wts K ws) {k : Nat} (hk : k < K) : 0 < ws.getD k 0 := by
  have hl : k < ws.length := by rw [h.ln]; exact hk
  rw [getD_at hl]
  exact (h.bd _ (List.getElem_mem hl)).1
theorem wtO_sum {K : Nat} {ws : List Nat} (h : ws.length = K) {it : Option Nat} (hi : ∀ k, it = some k → k < K) : sumN (List.range K) (wtO ws it) = if it.isNone then ws.sum else 1 := by
  cases it with
  | none => subst h; exact sumN_list
  | some j => exact sumN_at (hi j rfl)
theorem numStep_sum {W : Wt} {ws : List Nat} {K : Nat} {f : Nat → Nat} {it : Option Nat} (ok : W.Ok K) (h : ws.length = K) (hi : ∀ k, it = some k → k < K) :
    sumN (List.range W.mv.length) (numStep W ws K f it) = sumN (List.range W.mv.length) f * if it.isNone then ws.sum else 1 := by
  have e1 : sumN (List.range W.mv.length) (numStep W ws K f it) = sumN (List.range W.mv.length) fun p => f p * sumN (List.range K) (wtO ws it) := by
    unfold numStep
    rw [sumN_swap]
    refine sumN_congr fun p hp => ?_
    rw [sumN_swap, ← sumN_mul]
    refine sumN_congr fun k hk => ?_
    exact sumN_at' (go_lt ok (List.mem_range.mp hp) (List.mem_range.mp hk))
  rw [e1, wtO_sum h hi]
  rw [Nat.mul_comm, ← sumN_mul]
  exact sumN_congr fun p _ => Nat.mul_comm _ _
theorem unk_snoc {s : List (Option Nat)} {it : Option Nat} : unk (s ++ [it]) = unk s + if it.isNone then 1 else 0 := by
  unfold unk
  rw [List.filter_append, List.length_append]
  cases it <;> rfl
theorem unk_le {s : List (Option Nat)} : unk s ≤ s.length := List.length_filter_le ..
theorem numW_sum {W : Wt} {ws : List Nat} {K : Nat} (ok : W.Ok K) (h : ws.length = K) {s : List (Option Nat)} : (∀ k, some k ∈ s → k < K) → sumN (List.range W.mv.length) (numW W ws K s) = ws.sum ^ unk s := by
  induction s using snoc_ind with
  | h0 => intro _; exact sumN_at ok.n1
  | h1 s it ih =>
    intro hs
    rw [numW_snoc, numStep_sum ok h (fun k e => hs k (by rw [e]; simp)), ih fun k hk => hs k (List.mem_append_left _ hk), unk_snoc]
    cases it with
    | none => exact (Nat.pow_succ ..).symm
    | some j => exact Nat.mul_one _
theorem numStep_pos {W : Wt} {ws : List Nat} {K : Nat} {f : Nat → Nat} {it : Option Nat} {φ : Nat → Prop} (ok : W.Ok K) (h : Wts K ws) (hi : ∀ k, it = some k → k < K) (hf : ∀ p, 0 < f p ↔ φ p) (hl : ∀ p, φ p → p < W.mv.length) (q : Nat) :
    0 < numStep W ws K f it q ↔ behW W K true φ it q := by
  unfold numStep
  rw [sumN_pos]
  have c : ∀ p k, k < K → (0 < (if go W p k = q then f p * wtO ws it k else 0) ↔ go W p k = q ∧ φ p ∧ 0 < wtO ws it k) := fun p k _ => by
    by_cases e : go W p k = q
    · rw [if_pos e, mul_pos2]
      exact ⟨fun z => ⟨e, (hf p).mp z.1, z.2⟩, fun z => ⟨(hf p).mpr z.2.1, z.2.2⟩⟩
    · rw [if_neg e]
      exact ⟨fun z => absurd z (by omega), fun z => absurd z.1 e⟩
  cases it with
  | none =>
    constructor
    · rintro ⟨p, _, hp⟩
      obtain ⟨k, hk, hp⟩ := sumN_pos.mp hp
      have hk := List.mem_range.mp hk
      obtain ⟨e, h2, _⟩ := (c p k hk).mp hp
      exact ⟨p, h2, k, hk, e⟩
    · rintro ⟨p, hp, k, hk, e⟩
      exact ⟨p, List.mem_range.mpr (hl p hp), sumN_pos.mpr ⟨k, List.mem_range.mpr hk, (c p k hk).mpr ⟨e, hp, h.pos hk⟩⟩⟩
  | some j =>
    constructor
    · rintro ⟨p, _, hp⟩
      obtain ⟨k, hk, hp⟩ := sumN_pos.mp hp
      have hk := List.mem_range.mp hk
      obtain ⟨e, h2, hw⟩ := (c p k hk).mp hp
      have ej : k = j := by
        by_cases z : k = j
        · exact z
        · rw [wtO_some, if_neg z] at hw; cases hw
      subst ej
      exact ⟨p, h2, e⟩
    · rintro ⟨p, hp, e⟩
      have hk := hi j rfl
      exact ⟨p, List.mem_range.mpr (hl p hp), sumN_pos.mpr ⟨j, List.mem_range.mpr hk, (c p j hk).mpr ⟨e, hp, by rw [wtO_some, if_pos rfl]; decide⟩⟩⟩
theorem ledW_lt {W : Wt} {K : Nat} (ok : W.Ok K) {s : List (Option Nat)} : (∀ k, some k ∈ s → k < K) → ∀ p, ledW W K true s p → p < W.mv.length := by
  induction s using snoc_ind with
  | h0 => intro _ p hp; rw [show p = 0 from hp]; exact ok.n1
  | h1 s it ih =>
    intro hs p hp
    rw [led_snoc] at hp
    have ih := ih fun k hk => hs k (List.mem_append_left _ hk)
    cases it with
    | some k => obtain ⟨p', h1, e⟩ := hp; rw [← e]; exact go_lt ok (ih _ h1) (hs k (by simp))
    | none => obtain ⟨p', h1, k, hk, e⟩ := hp; rw [← e]; exact go_lt ok (ih _ h1) hk
theorem numW_led {W : Wt} {K : Nat} {ws : List Nat} (ok : W.Ok K) (h : Wts K ws) {s : List (Option Nat)} : (∀ k, some k ∈ s → k < K) → ∀ p, 0 < numW W ws K s p ↔ ledW W K true s p := by
  induction s using snoc_ind with
  | h0 =>
    intro _ p
    show 0 < num0 p ↔ p = 0
    unfold num0
    by_cases e : p = 0 <;> simp [e]
  | h1 s it ih =>
    intro hs p
    have hs' : ∀ k, some k ∈ s → k < K := fun k hk => hs k (List.mem_append_left _ hk)
    rw [numW_snoc, led_snoc]
    exact numStep_pos ok h (fun k e => hs k (by rw [e]; simp)) (ih hs') (ledW_lt ok hs') p
theorem numW_out {W : Wt} {K : Nat} {ws : List Nat} (ok : W.Ok K) (h : Wts K ws) {s : List (Option Nat)} (hs : ∀ k, some k ∈ s → k < K) {p : Nat} (hp : ¬ p < W.mv.length) : numW W ws K s p = 0 := by
  rcases Nat.eq_zero_or_pos (numW W ws K s p) with e | e
  · exact e
  · exact absurd (ledW_lt ok hs p ((numW_led ok h hs p).mp e)) hp
theorem numW_le {W : Wt} {K : Nat} {ws : List Nat} (ok : W.Ok K) (h : Wts K ws) {s : List (Option Nat)} (hs : ∀ k, some k ∈ s → k < K) (p : Nat) : numW W ws K s p ≤ ws.sum ^ unk s := by
  by_cases hp : p < W.mv.length
  · rw [← numW_sum ok h.ln hs]
    exact sumN_le (List.mem_range.mpr hp)
  · rw [numW_out ok h hs hp]; exact Nat.zero_le _
theorem sum_le_of {l : List Nat} {b : Nat} (h : ∀ x ∈ l, x ≤ b) : l.sum ≤ l.length * b := by
  induction l with
  | nil => exact Nat.zero_le _
  | cons a l ih =>
    rw [List.sum_cons, List.length_cons, Nat.succ_mul]
    have := h a (List.mem_cons_self ..)
    have := ih fun x hx => h x (List.mem_cons_of_mem _ hx)
    omega
theorem Wts.sum_lt {K : Nat} {ws : List Nat} (h : Wts K ws) (k4 : K ≤ 4) : ws.sum < 2 ^ 22 := by
  have := sum_le_of (l := ws) (b := 1000000) fun x hx => (h.bd x hx).2
  rw [h.ln] at this
  have : K * 1000000 ≤ 4 * 1000000 := Nat.mul_le_mul_right _ k4
  omega
theorem Wts.sum_pos {K : Nat} {ws : List Nat} (h : Wts K ws) (k1 : 1 ≤ K) : 0 < ws.sum := by
  have e : sumN (List.range ws.length) (fun k => ws.getD k 0) = ws.sum := sumN_list
  rw [← e, sumN_pos]
  exact ⟨0, List.mem_range.mpr (by rw [h.ln]; exact k1), h.pos k1⟩
theorem pow_bd {b n m : Nat} (hb : b < 2 ^ 22) (hn : n ≤ m) : b ^ n ≤ 2 ^ (22 * m) := by
  refine Nat.le_trans (Nat.pow_le_pow_left (Nat.le_of_lt hb) n) ?_
  rw [← Nat.pow_mul]
  exact Nat.pow_le_pow_right (by decide) (Nat.mul_le_mul_left _ hn)
theorem whole_lt {K : Nat} {ws : List Nat} (h : Wts K ws) (k4 : K ≤ 4) {s : List (Option Nat)} (hl : s.length ≤ 300) : ws.sum ^ unk s < 2 ^ 6601 := by
  refine Nat.lt_of_le_of_lt (pow_bd (m := 300) (h.sum_lt k4) (Nat.le_trans unk_le hl)) ?_
  exact Nat.pow_lt_pow_right (by decide) (by decide)
theorem numW_lt {W : Wt} {K : Nat} {ws : List Nat} (ok : W.Ok K) (h : Wts K ws) {s : List (Option Nat)} (sh : Sh K s) (p : Nat) : numW W ws K s p < 2 ^ 6601 :=
  Nat.lt_of_le_of_lt (numW_le ok h sh.kd p) (whole_lt h ok.k4 sh.ln)
/-! numbers of verdicts -/
theorem wordW_le {W : Wt} {f : Nat → Nat} {x : Nat} : wordW W f x ≤ sumN (List.range W.mv.length) f := sumN_mono fun p _ => by
  by_cases e : wo W p = x
  · rw [if_pos e]; exact Nat.le_refl _
  · rw [if_neg e]; exact Nat.zero_le _
theorem wordW_pos {W : Wt} {f : Nat → Nat} {x : Nat} {φ : Nat → Prop} (hf : ∀ p, 0 < f p ↔ φ p) (hl : ∀ p, φ p → p < W.mv.length) : 0 < wordW W f x ↔ ∃ p, φ p ∧ wo W p = x := by
  unfold wordW
  rw [sumN_pos]
  constructor
  · rintro ⟨p, _, hp⟩
    by_cases e : wo W p = x
    · rw [if_pos e] at hp; exact ⟨p, (hf p).mp hp, e⟩
    · rw [if_neg e] at hp; cases hp
  · rintro ⟨p, hp, e⟩
    exact ⟨p, List.mem_range.mpr (hl p hp), by rw [if_pos e]; exact (hf p).mpr hp⟩
/-! what odds and telling promise -/
def S_need_weights (C : Addr) : SD := fun ds P => ∃ W K ws, Wt.Ok W K ∧ Wts K ws ∧ ds = [wD C W, lsD ws] ∧ P .non
def S_need_odds (C : Addr) : SD := fun ds P => ∃ W K s ws, Wt.Ok W K ∧ Sh K s ∧ Wts K ws ∧ ds = [wD C W, shD s, lsD ws] ∧ P .non
def S_divisor : SD := fun ds P => ∃ a b : Nat, ds = [natD a, natD b] ∧ P (natD (a.gcd b))
def S_power : SD := fun ds P => ∃ a n : Nat, ds = [natD a, natD n] ∧ a < 2 ^ 25 ∧ n ≤ 300 ∧ P (natD (a ^ n))
def S_fraction_of : SD := fun ds P => ∃ a b : Nat, ds = [natD a, natD b] ∧ 0 < b ∧ b < 2 ^ 8400 ∧ P (frD a b)
def S_is_above : SD := fun ds P => ∃ a b c d : Nat, ds = [.tup [natD a, natD b], .tup [natD c, natD d]] ∧ a < 2 ^ 8400 ∧ b < 2 ^ 8400 ∧ c < 2 ^ 8400 ∧ d < 2 ^ 8400 ∧ P (.bl (decide (c * b < a * d)))
def wdsP (W : Wt) (K : Nat) (s : List (Option Nat)) (x : Nat) : Prop := ∃ p, ledW W K true s p ∧ wo W p = x
theorem wo_le {W : Wt} {K p : Nat} (ok : W.Ok K) (hp : p < W.mv.length) : wo W p ≤ 3 := by
  have : p < W.wd.length := by rw [ok.wl]; exact hp
  unfold wo
  rw [getD_at this]
  exact ok.w3 _ (List.getElem_mem this)
theorem wordW_lt {W : Wt} {K : Nat} {ws : List Nat} (ok : W.Ok K) (h : Wts K ws) {s : List (Option Nat)} (sh : Sh K s) (x : Nat) : wordW W (numW W ws K s) x ≤ ws.sum ^ unk s := by
  rw [← numW_sum ok h.ln sh.kd]
  exact wordW_le
/-- the greatest number of a verdict -/
def bestW (W : Wt) (ws : List Nat) (K : Nat) (s : List (Option Nat)) : Nat := ((List.range 4).map (wordW W (numW W ws K s))).foldl max 0
theorem foldl_max {l : List Nat} : ∀ {a : Nat}, a ≤ l.foldl max a ∧ (∀ x ∈ l, x ≤ l.foldl max a) ∧ (l.foldl max a = a ∨ l.foldl max a ∈ l) := by
  induction l with
  | nil => intro a; exact ⟨Nat.le_refl _, by simp, .inl rfl⟩
  | cons b l ih =>
    intro a
    obtain ⟨h1, h2, h3⟩ := ih (a := max a b)
    rw [List.foldl_cons]
    refine ⟨by omega, fun x hx => ?_, ?_⟩
    · rcases List.mem_cons.mp hx with rfl | z
      · omega
      · exact h2 x z
    · rcases h3 with e | e
      · by_cases z : a ≤ b
        · right; rw [e, Nat.max_eq_right z]; exact List.mem_cons_self ..
        · left; rw [e, Nat.max_eq_left (by omega)]
      · right; exact List.mem_cons_of_mem _ e
/-- whichever verdict has the greatest number -/
theorem bestW_is {W : Wt} {K : Nat} {ws : List Nat} (ok : W.Ok K) (h : Wts K ws) {s : List (Option Nat)} (sh : Sh K s) {x : Nat} (hx : wdsP W K s x) (top : ∀ y, wdsP W K s y → wordW W (numW W ws K s) y ≤ wordW W (numW W ws K s) x) : bestW W ws K s = wordW W (numW W ws K s) x := by
  obtain ⟨_, h2, h3⟩ := foldl_max (l := (List.range 4).map (wordW W (numW W ws K s))) (a := 0)
  have lt := ledW_lt ok sh.kd
  obtain ⟨p, hp, e⟩ := hx
  have hx4 : x < 4 := by have := wo_le ok (lt p hp); omega
  have le1 : wordW W (numW W ws K s) x ≤ bestW W ws K s := h2 _ (List.mem_map.mpr ⟨x, List.mem_range.mpr hx4, rfl⟩)
  have pos : 0 < wordW W (numW W ws K s) x := (wordW_pos (numW_led ok h sh.kd) lt).mpr ⟨p, hp, e⟩
  refine Nat.le_antisymm ?_ le1
  rcases h3 with e | e
  · show _ ≤ _
    unfold bestW
    rw [e]; exact Nat.zero_le _
  · obtain ⟨y, _, ey⟩ := List.mem_map.mp e
    have eb : bestW W ws K s = wordW W (numW W ws K s) y := ey.symm
    rw [eb]
    refine top y ((wordW_pos (numW_led ok h sh.kd) lt).mp ?_)
    rw [← eb]; omega
theorem bestW_le {W : Wt} {K : Nat} {ws : List Nat} (ok : W.Ok K) (h : Wts K ws) {s : List (Option Nat)} (sh : Sh K s) : bestW W ws K s ≤ ws.sum ^ unk s := by
  obtain ⟨_, _, h3⟩ := foldl_max (l := (List.range 4).map (wordW W (numW W ws K s))) (a := 0)
  rcases h3 with e | e
  · unfold bestW; rw [e]; exact Nat.zero_le _
  · obtain ⟨y, _, ey⟩ := List.mem_map.mp e
    unfold bestW
    rw [← ey]
    exact wordW_lt ok h sh y
/-- how much a look at a place tells, times the row's whole -/
def topW (W : Wt) (ws : List Nat) (K : Nat) (s : List (Option Nat)) (p : Nat) : Nat := sumN (List.range K) fun k => ws.getD k 0 * bestW W ws K (s.set p (some k))
theorem unk_pos {s : List (Option Nat)} {p : Nat} (h : s[p]? = some none) : 0 < unk s := by
  unfold unk
  exact List.length_pos_of_mem (List.mem_filter.mpr ⟨List.mem_of_getElem? h, rfl⟩)
theorem unk_set {s : List (Option Nat)} : ∀ {p k : Nat}, s[p]? = some none → unk (s.set p (some k)) = unk s - 1 := by
  induction s with
  | nil => intro p k h; simp at h
  | cons a s ih =>
    intro p k h
    cases p with
    | zero => simp at h; subst h; simp [unk]
    | succ p =>
      have h' : s[p]? = some none := by simpa using h
      have e := ih (k := k) h'
      have e0 := unk_pos h'
      rw [List.set_cons_succ]
      unfold unk at e e0 ⊢
      rw [List.filter_cons, List.filter_cons]
      split
      · rw [List.length_cons, List.length_cons, e]; omega
      · exact e
theorem Sh.set {K : Nat} {s : List (Option Nat)} (h : Sh K s) {p k : Nat} (hk : k < K) : Sh K (s.set p (some k)) := ⟨by rw [List.length_set]; exact h.ln, fun j hj => by
  rcases List.mem_or_eq_of_mem_set hj with z | z
  · exact h.kd j z
  · cases z; exact hk⟩
theorem topW_le {W : Wt} {K : Nat} {ws : List Nat} (ok : W.Ok K) (h : Wts K ws) {s : List (Option Nat)} (sh : Sh K s) {p : Nat} (hp : s[p]? = some none) : topW W ws K s p ≤ ws.sum ^ unk s := by
  have e : unk s = unk s - 1 + 1 := by have := unk_pos hp; omega
  have e2 : sumN (List.range K) (fun k => ws.getD k 0) = ws.sum := by rw [← h.ln]; exact sumN_list
  rw [e, Nat.pow_succ, ← e2, ← sumN_mul]
  refine sumN_mono fun k hk => ?_
  rw [Nat.mul_comm]
  refine Nat.mul_le_mul_right _ ?_
  rw [← unk_set (k := k) hp]
  rw [e2]
  exact bestW_le ok h (sh.set (List.mem_range.mp hk))
/-! pairs and their sides -/
theorem star_map {α β : Type} {r : α → α → Prop} {r' : β → β → Prop} {φ : α → Prop} {ψ : β → Prop} (g : α → β) (h0 : ∀ p, φ p → ψ (g p)) (h1 : ∀ p q, r p q → r' (g p) (g q)) {q : α} (h : Star r φ q) : Star r' ψ (g q) := by
  induction h with
  | base h => exact .base (h0 _ h)
  | step _ hr ih => exact .step ih (h1 _ _ hr)
theorem star_mono {α : Type} {r : α → α → Prop} {φ ψ : α → Prop} (h0 : ∀ p, φ p → ψ p) {q : α} (h : Star r φ q) : Star r ψ q := star_map (fun x => x) h0 (fun _ _ h => h) h
theorem star_lift {α β : Type} {r : α → α → Prop} {r' : β → β → Prop} {φ : α → Prop} {ψ : β → Prop} (g : α → β) (h0 : ∀ q, ψ q → ∃ p, φ p ∧ g p = q) (h1 : ∀ p q, r' (g p) q → ∃ p', r p p' ∧ g p' = q) {q : β} (h : Star r' ψ q) : ∃ p, Star r φ p ∧ g p = q := by
  induction h with
  | base h => obtain ⟨p, hp, e⟩ := h0 _ h; exact ⟨p, .base hp, e⟩
  | step _ hr ih =>
    obtain ⟨p, hp, e⟩ := ih
    subst e
    obtain ⟨p', hr', e⟩ := h1 _ _ hr
    exact ⟨p', .step hp hr', e⟩
theorem led_fst {V W : Wt} {K : Nat} {m : Bool} {s : List (Option Nat)} : ∀ p, ledW V K m s p ↔ ∃ q, ledP V W K m s q ∧ q.1 = p := by
  induction s using snoc_ind with
  | h0 => intro p; exact ⟨fun h => ⟨(0, 0), rfl, h.symm⟩, fun ⟨q, h, e⟩ => by rw [show q = (0, 0) from h] at e; exact e.symm⟩
  | h1 s it ih =>
    intro p
    rw [led_snoc, ledP_snoc]
    cases it with
    | some k =>
      constructor
      · rintro ⟨p', h, e⟩
        obtain ⟨q, hq, e2⟩ := (ih p').mp h
        exact ⟨_, ⟨q, hq, rfl⟩, by rw [e2]; exact e⟩
      · rintro ⟨q, ⟨q', hq, e⟩, e2⟩
        exact ⟨q'.1, (ih _).mpr ⟨q', hq, rfl⟩, by rw [← e2, ← e]⟩
    | none =>
      cases m with
      | true =>
        constructor
        · rintro ⟨p', h, k, hk, e⟩
          obtain ⟨q, hq, e2⟩ := (ih p').mp h
          exact ⟨_, ⟨q, hq, k, hk, rfl⟩, by rw [e2]; exact e⟩
        · rintro ⟨q, ⟨q', hq, k, hk, e⟩, e2⟩
          exact ⟨q'.1, (ih _).mpr ⟨q', hq, rfl⟩, k, hk, by rw [← e2, ← e]⟩
      | false =>
        constructor
        · intro h
          exact star_lift (r := stepP V W K) (φ := ledP V W K false s) Prod.fst (fun q hq => (ih q).mp hq) (fun p q ⟨k, hk, e⟩ => ⟨(go V p.1 k, go W p.2 k), ⟨k, hk, rfl⟩, e⟩) h
        · rintro ⟨q, hq, e⟩
          subst e
          exact star_map Prod.fst (fun q hq => (ih q.1).mpr ⟨q, hq, rfl⟩) (fun p q ⟨k, hk, e⟩ => ⟨k, hk, by rw [← e]⟩) hq
theorem led_snd {V W : Wt} {K : Nat} {m : Bool} {s : List (Option Nat)} : ∀ p, ledW W K m s p ↔ ∃ q, ledP V W K m s q ∧ q.2 = p := by
  induction s using snoc_ind with
  | h0 => intro p; exact ⟨fun h => ⟨(0, 0), rfl, h.symm⟩, fun ⟨q, h, e⟩ => by rw [show q = (0, 0) from h] at e; exact e.symm⟩
  | h1 s it ih =>
    intro p
    rw [led_snoc, ledP_snoc]
    cases it with
    | some k =>
      constructor
      · rintro ⟨p', h, e⟩
        obtain ⟨q, hq, e2⟩ := (ih p').mp h
        exact ⟨_, ⟨q, hq, rfl⟩, by rw [e2]; exact e⟩
      · rintro ⟨q, ⟨q', hq, e⟩, e2⟩
        exact ⟨q'.2, (ih _).mpr ⟨q', hq, rfl⟩, by rw [← e2, ← e]⟩
    | none =>
      cases m with
      | true =>
        constructor
        · rintro ⟨p', h, k, hk, e⟩
          obtain ⟨q, hq, e2⟩ := (ih p').mp h
          exact ⟨_, ⟨q, hq, k, hk, rfl⟩, by rw [e2]; exact e⟩
        · rintro ⟨q, ⟨q', hq, k, hk, e⟩, e2⟩
          exact ⟨q'.2, (ih _).mpr ⟨q', hq, rfl⟩, k, hk, by rw [← e2, ← e]⟩
      | false =>
        constructor
        · intro h
          exact star_lift (r := stepP V W K) (φ := ledP V W K false s) Prod.snd (fun q hq => (ih q).mp hq) (fun p q ⟨k, hk, e⟩ => ⟨(go V p.1 k, go W p.2 k), ⟨k, hk, rfl⟩, e⟩) h
        · rintro ⟨q, hq, e⟩
          subst e
          exact star_map Prod.snd (fun q hq => (ih q.2).mpr ⟨q, hq, rfl⟩) (fun p q ⟨k, hk, e⟩ => ⟨k, hk, by rw [← e]⟩) hq
/-- counted is within lost -/
theorem led_lost {V W : Wt} {K : Nat} {s : List (Option Nat)} : ∀ p, ledP V W K true s p → ledP V W K false s p := by
  induction s using snoc_ind with
  | h0 => exact fun p h => h
  | h1 s it ih =>
    intro p
    rw [ledP_snoc, ledP_snoc]
    cases it with
    | some k => exact fun ⟨q, hq, e⟩ => ⟨q, ih q hq, e⟩
    | none => exact fun ⟨q, hq, st⟩ => .step (.base (ih q hq)) st
/-- an event more, known -/
theorem led_look {V W : Wt} {K k : Nat} (hk : k < K) : ∀ {s : List (Option Nat)} {i : Nat} {φ ψ : Nat × Nat → Prop}, s[i]? = some none → (∀ p, φ p → ψ p) → ∀ p, (s.set i (some k)).foldl (behP V W K true) φ p → s.foldl (behP V W K true) ψ p := by
  have mono : ∀ (it : Option Nat) {φ ψ : Nat × Nat → Prop}, (∀ p, φ p → ψ p) → ∀ p, behP V W K true φ it p → behP V W K true ψ it p := fun it φ ψ h p => by
    cases it with
    | some k => exact fun ⟨q, hq, e⟩ => ⟨q, h q hq, e⟩
    | none => exact fun ⟨q, hq, e⟩ => ⟨q, h q hq, e⟩
  have monos : ∀ (s : List (Option Nat)) {φ ψ : Nat × Nat → Prop}, (∀ p, φ p → ψ p) → ∀ p, s.foldl (behP V W K true) φ p → s.foldl (behP V W K true) ψ p := fun s => by
    induction s with
    | nil => exact fun h => h
    | cons a s ih => exact fun h => ih (mono a h)
  intro s
  induction s with
  | nil => intro i φ ψ h; simp at h
  | cons a s ih =>
    intro i φ ψ h hs
    cases i with
    | zero =>
      simp at h
      subst h
      exact monos s fun p ⟨q, hq, e⟩ => ⟨q, hs q hq, k, hk, e⟩
    | succ i => exact ih (by simpa using h) (mono a hs)
theorem led_row {V W : Wt} {K : Nat} {m : Bool} {row : List Nat} : ∀ p, ledP V W K m (row.map some) p ↔ p = (walkW V row, walkW W row) := by
  induction row using snoc_ind with
  | h0 => exact fun p => Iff.rfl
  | h1 row k ih =>
    intro p
    rw [List.map_append, List.map_cons, List.map_nil, ledP_snoc]
    have e1 : ∀ U : Wt, walkW U (row ++ [k]) = go U (walkW U row) k := fun U => by unfold walkW; rw [List.foldl_append]; rfl
    rw [e1, e1]
    constructor
    · rintro ⟨q, hq, e⟩
      rw [(ih q).mp hq] at e
      exact e.symm
    · intro e
      exact ⟨_, (ih _).mpr rfl, e.symm⟩
/-- the same members -/
theorem sorted_eq : ∀ {l m : List Nat}, l.Pairwise (· < ·) → m.Pairwise (· < ·) → (∀ x, x ∈ l ↔ x ∈ m) → l = m
  | [], [], _, _, _ => rfl
  | [], b :: m, _, _, h => absurd ((h b).mpr (List.mem_cons_self ..)) (by simp)
  | a :: l, [], _, _, h => absurd ((h a).mp (List.mem_cons_self ..)) (by simp)
  | a :: l, b :: m, hl, hm, h => by
    obtain ⟨h1, h2⟩ := List.pairwise_cons.mp hl
    obtain ⟨h3, h4⟩ := List.pairwise_cons.mp hm
    have e : a = b := by
      rcases List.mem_cons.mp ((h a).mp (List.mem_cons_self ..)) with e | e
      · exact e
      · rcases List.mem_cons.mp ((h b).mpr (List.mem_cons_self ..)) with e' | e'
        · exact e'.symm
        · have := h1 b e'; have := h3 a e; omega
    subst e
    rw [sorted_eq h2 h4 fun x => ?_]
    constructor
    · intro hx
      rcases List.mem_cons.mp ((h x).mp (List.mem_cons_of_mem _ hx)) with e | e
      · have := h1 x hx; omega
      · exact e
    · intro hx
      rcases List.mem_cons.mp ((h x).mpr (List.mem_cons_of_mem _ hx)) with e | e
      · have := h3 x hx; omega
      · exact e
/-- what is known is the row's -/
def Part (row : List Nat) (s : List (Option Nat)) : Prop := s.length = row.length ∧ ∀ i : Nat, s[i]? = some none ∨ s[i]? = row[i]?.map some
theorem Part.full {row : List Nat} {s : List (Option Nat)} (h : Part row s) (u : unk s = 0) : s = row.map some := by
  refine List.ext_getElem? fun i => ?_
  rw [List.getElem?_map]
  rcases h.2 i with e | e
  · have := unk_pos e; omega
  · exact e
theorem Part.look {row : List Nat} {s : List (Option Nat)} (h : Part row s) {i k : Nat} (hi : row[i]? = some k) : Part row (s.set i (some k)) := by
  refine ⟨by rw [List.length_set]; exact h.1, fun j => ?_⟩
  by_cases e : i = j
  · subst e
    right
    have : i < s.length := by rw [h.1]; exact (List.getElem?_eq_some_iff.mp hi).1
    rw [List.getElem?_set_self this, hi]
    rfl
  · rw [List.getElem?_set_ne e]
    exact h.2 j
def S_heavier_by (C : Addr) : SD := fun ds P => ∃ W K ns f it ws, Wt.Ok W K ∧ Wts K ws ∧ ns.Nodup ∧ (∀ p ∈ ns, p < W.mv.length) ∧ (∀ p, p ∉ ns → f p = 0) ∧ (∀ p, f p < 2 ^ 8000) ∧ (∀ k, it = some k → k < K) ∧ ds = [wD C W, dkF ns f, itD it, lsD ws] ∧
  ∀ qs, qs.Nodup → (∀ q, q ∈ qs ↔ behW W K true (· ∈ ns) it q) → P (dkF qs (numStep W ws K f it))
def S_numbers_by (C : Addr) : SD := fun ds P => ∃ W K s ws, Wt.Ok W K ∧ Wts K ws ∧ Sh K s ∧ ds = [wD C W, shD s, lsD ws] ∧ ∀ qs, qs.Nodup → (∀ q, q ∈ qs ↔ ledW W K true s q) → P (.tup [dkF qs (numW W ws K s), natD (ws.sum ^ unk s)])
def S_words_by (C : Addr) : SD := fun ds P => ∃ W K s ws, Wt.Ok W K ∧ Wts K ws ∧ Sh K s ∧ ds = [wD C W, shD s, lsD ws] ∧ ∀ qs, SetIs qs (wdsP W K s) → P (.tup [dkF qs (wordW W (numW W ws K s)), natD (ws.sum ^ unk s)])
def S_odds_by (C : Addr) : SD := fun ds P => ∃ W K s ws, Wt.Ok W K ∧ Wts K ws ∧ Sh K s ∧ ds = [wD C W, shD s, lsD ws] ∧ ∀ qs, SetIs qs (wdsP W K s) → P (.dk (qs.map kI) (qs.map fun x => frD (wordW W (numW W ws K s) x) (ws.sum ^ unk s)))
def S_odds (C : Addr) : SD := S_odds_by C
def S_greatest_of : SD := fun ds P => ∃ (ns : List Nat) (f : Nat → Nat), ds = [dkF ns f] ∧ ns.Pairwise (· < ·) ∧ ns ≠ [] ∧ ns.length ≤ 1000 ∧ ∀ w, w ∈ ns → (∀ j ∈ ns, f j ≤ f w) → (∀ j ∈ ns, j < w → f j < f w) → P (.tup [natD w, natD (f w)])
def S_with_item : SD := fun ds P => ∃ (s : List (Option Nat)) (p k : Nat), ds = [shD s, natD p, natD k] ∧ s.length ≤ 300 ∧ P (shD (s.set p (some k)))
def S_guessed_by (C : Addr) : SD := fun ds P => ∃ W K s ws p, Wt.Ok W K ∧ Wts K ws ∧ Sh K s ∧ s[p]? = some none ∧ ds = [wD C W, shD s, lsD ws, natD p] ∧ P (frD (topW W ws K s p) (ws.sum ^ unk s))
def S_most_telling (C : Addr) : SD := fun ds P => ∃ W K s ws, Wt.Ok W K ∧ Wts K ws ∧ Sh K s ∧ ds = [wD C W, shD s, lsD ws] ∧ (unk s = 0 → P .non) ∧
  ∀ p, s[p]? = some none → (∀ p', s[p']? = some none → topW W ws K s p' ≤ topW W ws K s p) → (∀ p', p' < p → s[p']? = some none → topW W ws K s p' < topW W ws K s p) → P (.tup [natD p, frD (topW W ws K s p) (ws.sum ^ unk s)])
end K33

namespace K33
open PySem PySem.Spec PyProof.Rows L2 Dc
variable [TabsT]
/-! the walks of the defs, printed by drv33.py -/
def top (i : Nat) : Stmt := PySem.Challenge.pw_whytold_k33_whole_leaks_beside_odds.main.body.getD i (.Pass ⟨0, 0, 0, 0⟩)
def dBegun0 (P : Program) (K : KW) (i : Nat) (de : DTE) : DTE := fun ρ Q => (∃ ns : List Int, ρ[i]? = some (.ow (.lst (ns.map D.int))) ∧ nat0 ns) ∧ de ρ fun y ρ1 => ρ1 = ρ ∧ (∃ cs : List Int, y = .lst (cs.map D.int) ∧ nat0 cs) ∧ Q (tapeD P K) (ρ1.set i .no)
def dRefillP (P : Program) (K : KW) (i : Nat) (db : DTE) : DTE := fun ρ Q => (∃ a l c cs r t, ρ[i]? = some (.my a (tapeX P K l c cs r t))) ∧ (∀ n : Int, 0 ≤ n → Q (.int n) ρ) ∧ db ρ Q
structure Gc (P : Program) (KV : KW) where
  C : Addr
  f_is_word : Addr
  f_first_wrong : Addr
  fd_first_wrong : FuncData
  c_need_moves : Addr
  t_need_moves : Addr
  a_BEGIN : Addr
  a_BOTH_BEGIN : Addr
  S_is_number : SD
  S_is_between : SD
  S_is_list : SD
  S_mode_right : SD
  S_need_mode : SD
  S_first_wrong : SD
  S_is_word : SD
  S_is_line : SD
  S_need_moves : SD
  S_need_words : SD
  S_init : SM
  S_moves : SD
  S_words : SD
  S_kinds : SD
  S_need_watch : SD
  S_need_shown : SD
  S_known_by : SD
  S_next_by : SD
  S_reached_by : SD
  S_unknown_by : SD
  S_behind_by : SD
  S_led_by : SD
  S_can_lead : SD
  S_pair_behind : SD
  S_pairs_known : SD
  S_pairs_next : SD
  S_pairs_reached : SD
  S_both_behind : SD
  S_need_told : SD
  S_both_by : SD
  S_words_kept : SD
  S_leak_by : SD
  S_need_told_shown : SD
  S_both_lead : SD
  S_leak : SD
  S_need_weights : SD
  S_divisor : SD
  S_power : SD
  S_fraction_of : SD
  S_heavier_by : SD
  S_numbers_by : SD
  S_words_by : SD
  S_odds_by : SD
  S_need_odds : SD
  S_odds : SD
  S_greatest_of : SD
  S_with_item : SD
  S_guessed_by : SD
  S_is_above : SD
  S_most_telling : SD
  S__law_begun : SD
  S__law_blend : SM
  S__law_draw : SD
  S__law_pick : SD
  S__law_watch : SD
  S__law_made : SD
  S__law_row : SD
  S__law_place : SD
  S__law_weights : SD
structure Fx (P : Program) (w : World) (K : PySem.W.Frag) (mg : Str → Option Value) (G : Gc P ⟨K, w⟩) : Prop where
  b_abs : mg "abs" = none
  b_all : mg "all" = none
  b_bool : mg "bool" = none
  b_enumerate : mg "enumerate" = none
  b_int : mg "int" = none
  b_isinstance : mg "isinstance" = none
  b_len : mg "len" = none
  b_list : mg "list" = none
  b_max : mg "max" = none
  b_min : mg "min" = none
  b_range : mg "range" = none
  b_set : mg "set" = none
  b_sorted : mg "sorted" = none
  b_str : mg "str" = none
  b_sum : mg "sum" = none
  b_tuple : mg "tuple" = none
  c_BEGIN : mg "BEGIN" = some (.ref G.a_BEGIN)
  r_BEGIN : ∀ F, Rep ⟨K, w⟩ F (.tup [.int 0]) (.ref G.a_BEGIN)
  c_BOTH_BEGIN : mg "BOTH_BEGIN" = some (.ref G.a_BOTH_BEGIN)
  r_BOTH_BEGIN : ∀ F, Rep ⟨K, w⟩ F (.tup [(.tup [.int 0, .int 0])]) (.ref G.a_BOTH_BEGIN)
  c_COUNTED : ∃ t, mg "COUNTED" = some (.str "counted" t)
  c_LOST : ∃ t, mg "LOST" = some (.str "lost" t)
  c_MOST_EVENTS : ∃ t, mg "MOST_EVENTS" = some (.int 300 t)
  c_MOST_KINDS : ∃ t, mg "MOST_KINDS" = some (.int 4 t)
  c_MOST_PLACES : ∃ t, mg "MOST_PLACES" = some (.int 6 t)
  c_MOST_PRICE : ∃ t, mg "MOST_PRICE" = some (.int 1000000 t)
  c_MOST_WORD : ∃ t, mg "MOST_WORD" = some (.int 3 t)
  v_first_wrong : mg "first_wrong" = some (.ref G.f_first_wrong)
  v_is_word : mg "is_word" = some (.ref G.f_is_word)
  v_Watch : mg "Watch" = some (.ref G.C)
  ci : ClsI K G.C
  cl : Cls K G.C
  n_own_moves : NoAttr K G.C "own_moves"
  n_own_words : NoAttr K G.C "own_words"
section
variable {P : Program} {w : World} {K : PySem.W.Frag} {mg : Str → Option Value} {base : Heap} {f : Addr} {cdv : Value} {A : Around} {outer : List Env} {s : Shared} {H : Hp} {E : XK}
abbrev s_is_number : Stmt := top 11
def N_is_number : List Str := ["thing"]
theorem sc_is_number : FnScope N_is_number ["thing"] (defScope s_is_number) := ⟨rfl, rfl, rfl, by decide +kernel, rfl, by decide +kernel, by decide +kernel⟩
def d_is_number {P : Program} {KV : KW} (G : Gc P KV) : DTS := (sRet (dAndV (dIsi .tI (dLook 0)) (dNotV (dIsi .tB (dLook 0)))))
theorem w_is_number {G : Gc P ⟨K, w⟩} (g : Fx P w K mg G)  (hr : Room 0 (A.deeper (envOfC "is_number" (defScope s_is_number) s.heap.objs.size f cdv))) :
    ∃ t, DSs (cxOf CX0 P w K mg base N_is_number "is_number" (defScope s_is_number) f cdv A outer s H E).nox (defBody s_is_number) t (d_is_number G) := by
  unfold d_is_number
  exact ⟨_, (ds_one (ds_ret (de_and (de_isi .tI rfl g.b_isinstance rfl g.b_int rfl (dc_v 0)) (de_one (de_not (de_isi .tB rfl g.b_isinstance rfl g.b_bool rfl (dc_v 0)))))))⟩
abbrev s_is_between : Stmt := top 12
def N_is_between : List Str := ["thing", "low", "high"]
theorem sc_is_between : FnScope N_is_between ["thing", "low", "high"] (defScope s_is_between) := ⟨rfl, rfl, rfl, by decide +kernel, rfl, by decide +kernel, by decide +kernel⟩
def d_is_between {P : Program} {KV : KW} (G : Gc P KV) : DTS := (sRet (dAndV (dCall G.S_is_number [] (dCons (dVar 0) dNil)) (dChain rdLe rdLe (dLook 1) (dLook 0) (dLook 2))))
theorem w_is_between {G : Gc P ⟨K, w⟩} (g : Fx P w K mg G) (k_is_number : Kn P w K mg base 1 "is_number" G.S_is_number []) (hr : Room 1 (A.deeper (envOfC "is_between" (defScope s_is_between) s.heap.objs.size f cdv))) :
    ∃ t, DSs (cxOf CX0 P w K mg base N_is_between "is_between" (defScope s_is_between) f cdv A outer s H E).nox (defBody s_is_between) t (d_is_between G) := by
  unfold d_is_between
  exact ⟨_, (ds_one (ds_ret (de_and (de_callF k_is_number rfl rfl rfl rfl rfl hr (by decide) rfl (da_cons (de_v 0) da_nil)) (de_one (de_chain op_le op_le lr_le lr_le (dc_v 1) (dc_v 0) (dc_v 2))))))⟩
abbrev s_is_list : Stmt := top 13
def N_is_list : List Str := ["thing"]
theorem sc_is_list : FnScope N_is_list ["thing"] (defScope s_is_list) := ⟨rfl, rfl, rfl, by decide +kernel, rfl, by decide +kernel, by decide +kernel⟩
def d_is_list {P : Program} {KV : KW} (G : Gc P KV) : DTS := (sRet (dIsi2 .tL .tT (dLook 0)))
theorem w_is_list {G : Gc P ⟨K, w⟩} (g : Fx P w K mg G)  (hr : Room 0 (A.deeper (envOfC "is_list" (defScope s_is_list) s.heap.objs.size f cdv))) :
    ∃ t, DSs (cxOf CX0 P w K mg base N_is_list "is_list" (defScope s_is_list) f cdv A outer s H E).nox (defBody s_is_list) t (d_is_list G) := by
  unfold d_is_list
  exact ⟨_, (ds_one (ds_ret (de_isi2 .tL .tT rfl g.b_isinstance rfl g.b_list rfl rfl g.b_tuple rfl (dc_v 0))))⟩
abbrev s_mode_right : Stmt := top 17
def N_mode_right : List Str := ["thing"]
theorem sc_mode_right : FnScope N_mode_right ["thing"] (defScope s_mode_right) := ⟨rfl, rfl, rfl, by decide +kernel, rfl, by decide +kernel, by decide +kernel⟩
def d_mode_right {P : Program} {KV : KW} (G : Gc P KV) : DTS := (sRet (dAndV (dIsi .tS (dLook 0)) (dOp (rdIn false) (dLook 0) (dTup (dCons (dK1 (.str "counted")) (dCons (dK1 (.str "lost")) dNil))))))
theorem w_mode_right {G : Gc P ⟨K, w⟩} (g : Fx P w K mg G)  (hr : Room 0 (A.deeper (envOfC "mode_right" (defScope s_mode_right) s.heap.objs.size f cdv))) :
    ∃ t, DSs (cxOf CX0 P w K mg base N_mode_right "mode_right" (defScope s_mode_right) f cdv A outer s H E).nox (defBody s_mode_right) t (d_mode_right G) := by
  unfold d_mode_right
  exact ⟨_, (ds_one (ds_ret (de_and (de_isi .tS rfl g.b_isinstance rfl g.b_str rfl (dc_v 0)) (de_one (de_cmp (r := rIn K false) op_in_seq (lr_in false) (dc_v 0) (dc_of (de_tup (da_cons (de_gstr rfl g.c_COUNTED) (da_cons (de_gstr rfl g.c_LOST) da_nil)))))))))⟩
abbrev s_need_mode : Stmt := top 18
def N_need_mode : List Str := ["mode"]
theorem sc_need_mode : FnScope N_need_mode ["mode"] (defScope s_need_mode) := ⟨rfl, rfl, rfl, by decide +kernel, rfl, by decide +kernel, by decide +kernel⟩
def d_need_mode {P : Program} {KV : KW} (G : Gc P KV) : DTS := (sIf (dNot (dTst (dCall G.S_mode_right [] (dCons (dVar 0) dNil)))) sNever sNext)
theorem w_need_mode {G : Gc P ⟨K, w⟩} (g : Fx P w K mg G) (k_mode_right : Kn P w K mg base 1 "mode_right" G.S_mode_right []) (hr : Room 1 (A.deeper (envOfC "need_mode" (defScope s_need_mode) s.heap.objs.size f cdv))) :
    ∃ t, DSs (cxOf CX0 P w K mg base N_need_mode "need_mode" (defScope s_need_mode) f cdv A outer s H E).nox (defBody s_need_mode) t (d_need_mode G) := by
  unfold d_need_mode
  exact ⟨_, (ds_one (ds_if (dt_not (dt_val (de_callF k_mode_right rfl rfl rfl rfl rfl hr (by decide) rfl (da_cons (de_v 0) da_nil)))) dss_never ds_nil))⟩
abbrev s_first_wrong : Stmt := top 23
def N_first_wrong : List Str := ["several", "fits", "index", "item"]
theorem sc_first_wrong : FnScope N_first_wrong ["several", "fits"] (defScope s_first_wrong) := ⟨rfl, rfl, rfl, by decide +kernel, rfl, by decide +kernel, by decide +kernel⟩
def d_first_wrong (x : D) (L : LamD) : DTS := (sSeq (sFor (dEnum (dCons (dVar 0) dNil)) (gTupD 2 (gsCons (gSet 2) (gsCons (gSet 3) gsNil))) (sIf (dNot (dTst (dAct 1 x L (dVar 3)))) (sRet (dVar 2)) sNext)) (sRet (dK1 .non)))
theorem w_first_wrong {G : Gc P ⟨K, w⟩} {k : Nat} (g : Fx P w K mg G) (x : D) (L : LamD) (hr : Room k (A.deeper (envOfC "first_wrong" (defScope s_first_wrong) s.heap.objs.size f cdv)))
    (act : ∀ (e : Expr) (te : TE) (ue : DTE) (p1 p2 : Pos), DE (cxOf CX0 P w K mg base N_first_wrong "first_wrong" (defScope s_first_wrong) f cdv A outer s H E).nox e te ue → starEach [e] (cxOf CX0 P w K mg base N_first_wrong "first_wrong" (defScope s_first_wrong) f cdv A outer s H E).nox.env = [(false, eval e (cxOf CX0 P w K mg base N_first_wrong "first_wrong" (defScope s_first_wrong) f cdv A outer s H E).nox.env)] → ∃ t, DE (cxOf CX0 P w K mg base N_first_wrong "first_wrong" (defScope s_first_wrong) f cdv A outer s H E).nox (.Call (.Name "fits" p1) [e] [] p2) t (dAct 1 x L ue)) :
    ∃ t, DSs (cxOf CX0 P w K mg base N_first_wrong "first_wrong" (defScope s_first_wrong) f cdv A outer s H E).nox (defBody s_first_wrong) t (d_first_wrong x L) := by
  unfold d_first_wrong
  exact ⟨_, (ds_cons (ds_for PassesOwn.never rfl (di_enum rfl g.b_enumerate (da_cons (de_v 0) da_nil)) (dg_tupF (K := K) rfl rfl (dgs_cons (dg_name 2 sc_first_wrong.nd) (dgs_cons (dg_name 3 sc_first_wrong.nd) dgs_nil))) (ds_one (ds_if (dt_not (dt_val (act _ _ _ _ _ (de_v 3) rfl).choose_spec)) (ds_one (ds_ret (de_v 2))) ds_nil))) (ds_one (ds_ret de_non)))⟩
abbrev s_is_word : Stmt := top 24
def N_is_word : List Str := ["thing"]
theorem sc_is_word : FnScope N_is_word ["thing"] (defScope s_is_word) := ⟨rfl, rfl, rfl, by decide +kernel, rfl, by decide +kernel, by decide +kernel⟩
def d_is_word {P : Program} {KV : KW} (G : Gc P KV) : DTS := (sRet (dCall G.S_is_between [] (dCons (dVar 0) (dCons (dK1 (.int 0)) (dCons (dK1 (.int 3)) dNil)))))
theorem w_is_word {G : Gc P ⟨K, w⟩} (g : Fx P w K mg G) (k_is_between : Kn P w K mg base 2 "is_between" G.S_is_between []) (hr : Room 2 (A.deeper (envOfC "is_word" (defScope s_is_word) s.heap.objs.size f cdv))) :
    ∃ t, DSs (cxOf CX0 P w K mg base N_is_word "is_word" (defScope s_is_word) f cdv A outer s H E).nox (defBody s_is_word) t (d_is_word G) := by
  unfold d_is_word
  exact ⟨_, (ds_one (ds_ret (de_callF k_is_between rfl rfl rfl rfl rfl hr (by decide) rfl (da_cons (de_v 0) (da_cons de_int (da_cons (de_gint rfl g.c_MOST_WORD) da_nil))))))⟩
abbrev s_is_line : Stmt := top 27
def N_is_line : List Str := ["thing", "kinds", "places", "item"]
theorem sc_is_line : FnScope N_is_line ["thing", "kinds", "places"] (defScope s_is_line) := ⟨rfl, rfl, rfl, by decide +kernel, rfl, by decide +kernel, by decide +kernel⟩
def d_is_line {P : Program} {KV : KW} (G : Gc P KV) : DTS := (sSeq (sIf (dOr (dNot (dTst (dCall G.S_is_list [] (dCons (dVar 0) dNil)))) (dTst (dOp rdNe (dCB rdLen (bCons (dLook 0) bNil)) (dLook 1)))) (sRet (dK1 (.bl false))) sNext) (sRet (dCB rdAll (bCons (dLc (dIlst (dVar 0)) (gSet 3) dYes (dCall G.S_is_between [] (dCons (dVar 3) (dCons (dK1 (.int 0)) (dCons (dOp rdSub (dLook 2) (dK1 (.int 1))) dNil)))) [3]) bNil))))
theorem w_is_line {G : Gc P ⟨K, w⟩} (g : Fx P w K mg G) (k_is_between : Kn P w K mg base 2 "is_between" G.S_is_between []) (k_is_list : Kn P w K mg base 1 "is_list" G.S_is_list []) (hr : Room 2 (A.deeper (envOfC "is_line" (defScope s_is_line) s.heap.objs.size f cdv))) :
    ∃ t, DSs (cxOf CX0 P w K mg base N_is_line "is_line" (defScope s_is_line) f cdv A outer s H E).nox (defBody s_is_line) t (d_is_line G) := by
  unfold d_is_line
  exact ⟨_, (ds_cons (ds_if (DW.dt (dw_or (dt_not (dt_val (de_callF k_is_list rfl rfl rfl rfl rfl hr (by decide) rfl (da_cons (de_v 0) da_nil)))) (dw_or1 (dt_cmp op_ne lr_ne (dc_of (de_cb (r := Dc.rLen K) cr_len lc_len rfl g.b_len rfl (db_cons (dc_v 0) db_nil))) (dc_v 1))))) (ds_one (ds_ret de_bl)) ds_nil) (ds_one (ds_ret (de_cb (r := rAll K) (cr_all rfl) lc_all rfl g.b_all rfl (db_cons (dc_of (de_ow (dv_lc (own := [("item", 3)]) rfl sc_is_line.nd (di_lst (de_v 0)) (blkOk_by (own := [("item", 3)]) (by kernel_rfl)) (fun _ _ _ _ _ => (dg_name 3 sc_is_line.nd)) (fun _ _ _ _ _ => dts_nil) (fun _ _ _ _ _ => (de_callF k_is_between rfl rfl rfl rfl rfl hr (by decide) rfl (da_cons (de_v 3) (da_cons de_int (da_cons (de_sub (dc_v 2) (dc_of de_int)) da_nil))))) (by decide)))) db_nil)))))⟩
abbrev s_need_moves : Stmt := top 28
def N_need_moves : List Str := ["moves", "first", "index"]
theorem sc_need_moves : FnScope N_need_moves ["moves"] (defScope s_need_moves) := ⟨rfl, rfl, rfl, by decide +kernel, rfl, by decide +kernel, by decide +kernel⟩
def d_need_moves {P : Program} {KV : KW} (G : Gc P KV) : DTS := (sSeq (sIf (dOr (dNot (dTst (dCall G.S_is_list [] (dCons (dVar 0) dNil)))) (dNot (dTst (dChain rdLe rdLe (dK1 (.int 1)) (dCB rdLen (bCons (dLook 0) bNil)) (dK1 (.int 6)))))) sNever sNext) (sSeq (sSet 1 (vSh (dOp rdIx (dLook 0) (dK1 (.int 0))))) (sSeq (sIf (dOr (dNot (dTst (dCall G.S_is_list [] (dCons (dVar 1) dNil)))) (dNot (dTst (dChain rdLe rdLe (dK1 (.int 1)) (dCB rdLen (bCons (dLook 1) bNil)) (dK1 (.int 4)))))) sNever sNext) (sSeq (sSet 2 (vSh (dLamC [1, 0] 3 4 (dVar 0) (dCall G.S_is_line [] (dCons (dVar 0) (dCons (dCB rdLen (bCons (dLook 1) bNil)) (dCons (dCB rdLen (bCons (dLook 2) bNil)) dNil)))) d_first_wrong))) (sIf (dTst (dMapB (fun x => !isNonD x) (dLook 2))) sNever sNext)))))
theorem w_need_moves {G : Gc P ⟨K, w⟩} (g : Fx P w K mg G) (FF : FunD K "first_wrong" "first_wrong" (defArgs s_first_wrong) (defBody s_first_wrong) (defScope s_first_wrong) [] [] G.f_first_wrong G.fd_first_wrong) (FB : Binds K G.fd_first_wrong ["several", "fits"] []) (TB : LamX.TabB base mg G.c_need_moves G.t_need_moves) (tabIn : (G.t_need_moves, (("need_moves" : Str) ++ ".<locals>.") ++ "<lambda>") ∈ TabsT.T) (tabU : ∀ p ∈ TabsT.T, p.1 = G.t_need_moves → p.2 = (("need_moves" : Str) ++ ".<locals>.") ++ "<lambda>") (hcode : cdv = .ref G.c_need_moves) (k_is_line : Kn P w K mg base 3 "is_line" G.S_is_line []) (k_is_list : Kn P w K mg base 1 "is_list" G.S_is_list []) (hr : Room 6 (A.deeper (envOfC "need_moves" (defScope s_need_moves) s.heap.objs.size f cdv))) :
    ∃ t, DSs (cxOf CX0 P w K mg base N_need_moves "need_moves" (defScope s_need_moves) f cdv A outer s H E).nox (defBody s_need_moves) t (d_need_moves G) := by
  unfold d_need_moves
  exact ⟨_, (ds_cons (ds_if (DW.dt (dw_or (dt_not (dt_val (de_callF k_is_list rfl rfl rfl rfl rfl hr (by decide) rfl (da_cons (de_v 0) da_nil)))) (dw_or1 (dt_not (dt_chain op_le op_le lr_le lr_le (dc_of de_int) (dc_of (de_cb (r := Dc.rLen K) cr_len lc_len rfl g.b_len rfl (db_cons (dc_v 0) db_nil))) (dc_of (de_gint rfl g.c_MOST_PLACES))))))) dss_never ds_nil) (ds_cons (ds_set 1 sc_need_moves.nd (dv_of (de_ix (r := rIx K) ix_seq lr_ix (dc_v 0) (dc_of de_int)))) (ds_cons (ds_if (DW.dt (dw_or (dt_not (dt_val (de_callF k_is_list rfl rfl rfl rfl rfl hr (by decide) rfl (da_cons (de_v 1) da_nil)))) (dw_or1 (dt_not (dt_chain op_le op_le lr_le lr_le (dc_of de_int) (dc_of (de_cb (r := Dc.rLen K) cr_len lc_len rfl g.b_len rfl (db_cons (dc_v 1) db_nil))) (dc_of (de_gint rfl g.c_MOST_KINDS))))))) dss_never ds_nil) (ds_cons (ds_set 2 sc_need_moves.nd (dv_of (de_lamC (Ng := N_first_wrong) (psg := ["several", "fits"]) (sg := defScope s_first_wrong) (G := d_first_wrong) (Ns := ["line", "first", "moves"]) (ps := ["line"]) (fr := ["first", "moves"]) (js := [1, 0]) (a := "fits") (k := 4) rfl g.v_first_wrong FF FB sc_first_wrong rfl (fun cdg s H x L hr act => w_first_wrong g x L hr act) rfl (Or.inl rfl) TB hcode tabIn tabU hr rfl (show ∀ y ∈ (Scope.names _), y.2 = .free → List.lookup y.1 (defScope s_need_moves).names = some .cell ∨ List.lookup y.1 (defScope s_need_moves).names = some .free from by decide +kernel) (by decide +kernel) rfl (NdefX.nscope_by (by decide +kernel)) rfl (fun _ _ _ _ _ _ => rfl) (de_v 0) (fun A o s H E f c' hl => (de_callF k_is_line rfl rfl rfl rfl rfl hl (by decide) rfl (da_cons (de_v 0) (da_cons (de_cb (r := Dc.rLen K) cr_len lc_len rfl g.b_len rfl (db_cons (dc_v 1) db_nil)) (da_cons (de_cb (r := Dc.rLen K) cr_len lc_len rfl g.b_len rfl (db_cons (dc_v 2) db_nil)) da_nil)))))))) (ds_one (ds_if (dt_notN (dc_v 2)) dss_never ds_nil))))))⟩
abbrev s_need_words : Stmt := top 29
def N_need_words : List Str := ["words", "many", "index"]
theorem sc_need_words : FnScope N_need_words ["words", "many"] (defScope s_need_words) := ⟨rfl, rfl, rfl, by decide +kernel, rfl, by decide +kernel, by decide +kernel⟩
def d_need_words {P : Program} {KV : KW} (G : Gc P KV) : DTS := (sSeq (sIf (dOr (dNot (dTst (dCall G.S_is_list [] (dCons (dVar 0) dNil)))) (dTst (dOp rdNe (dCB rdLen (bCons (dLook 0) bNil)) (dLook 1)))) sNever sNext) (sSeq (sSet 2 (vSh (dCall G.S_first_wrong [] (dCons (dVar 0) (dCons (dK1 (.rf G.f_is_word)) dNil))))) (sIf (dTst (dMapB (fun x => !isNonD x) (dLook 2))) sNever sNext)))
theorem w_need_words {G : Gc P ⟨K, w⟩} (g : Fx P w K mg G) (k_first_wrong : Kn P w K mg base 4 "first_wrong" G.S_first_wrong []) (k_is_list : Kn P w K mg base 1 "is_list" G.S_is_list []) (hr : Room 4 (A.deeper (envOfC "need_words" (defScope s_need_words) s.heap.objs.size f cdv))) :
    ∃ t, DSs (cxOf CX0 P w K mg base N_need_words "need_words" (defScope s_need_words) f cdv A outer s H E).nox (defBody s_need_words) t (d_need_words G) := by
  unfold d_need_words
  exact ⟨_, (ds_cons (ds_if (DW.dt (dw_or (dt_not (dt_val (de_callF k_is_list rfl rfl rfl rfl rfl hr (by decide) rfl (da_cons (de_v 0) da_nil)))) (dw_or1 (dt_cmp op_ne lr_ne (dc_of (de_cb (r := Dc.rLen K) cr_len lc_len rfl g.b_len rfl (db_cons (dc_v 0) db_nil))) (dc_v 1))))) dss_never ds_nil) (ds_cons (ds_set 2 sc_need_words.nd (dv_of (de_callF k_first_wrong rfl rfl rfl rfl rfl hr (by decide) rfl (da_cons (de_v 0) (da_cons (de_gl rfl g.v_is_word (v := .ref G.f_is_word) rfl (fun _ => rfl)) da_nil))))) (ds_one (ds_if (dt_notN (dc_v 2)) dss_never ds_nil))))⟩
abbrev s_init : Stmt := (C8.clsBody (top 30)).getD 0 (.Pass ⟨0, 0, 0, 0⟩)
def N_init : List Str := ["self", "moves", "words", "line"]
theorem sc_init : FnScope N_init ["self", "moves", "words"] (defScope s_init) := ⟨rfl, rfl, rfl, by decide +kernel, rfl, by decide +kernel, by decide +kernel⟩
def d_init {P : Program} {KV : KW} (G : Gc P KV) : DTS := (sSeq (sExpr (dCall G.S_need_moves [] (dCons (dVar 1) dNil))) (sSeq (sExpr (dCall G.S_need_words [] (dCons (dVar 2) (dCons (dCB rdLen (bCons (dLook 1) bNil)) dNil)))) (sSeq (sFldD 0 G.C "own_moves" (dCB rdTup (bCons (dLc (dIlst (dVar 1)) (gSet 3) dYes (dCB rdTup (bCons (dLook 3) bNil)) [3]) bNil))) (sFldD 0 G.C "own_words" (dCB rdTup (bCons (dLook 2) bNil))))))
theorem w_init {G : Gc P ⟨K, w⟩} (g : Fx P w K mg G) (k_need_moves : Kn P w K mg base 7 "need_moves" G.S_need_moves []) (k_need_words : Kn P w K mg base 5 "need_words" G.S_need_words []) (hr : Room 7 (A.deeper (envOfC "Watch.__init__" (defScope s_init) s.heap.objs.size f cdv))) :
    ∃ t, DSs (cxOf CX0 P w K mg base N_init "Watch.__init__" (defScope s_init) f cdv A outer s H E).nox (defBody s_init) t (d_init G) := by
  unfold d_init
  exact ⟨_, (ds_cons (ds_expr (de_callF k_need_moves rfl rfl rfl rfl rfl hr (by decide) rfl (da_cons (de_v 1) da_nil))) (ds_cons (ds_expr (de_callF k_need_words rfl rfl rfl rfl rfl hr (by decide) rfl (da_cons (de_v 2) (da_cons (de_cb (r := Dc.rLen K) cr_len lc_len rfl g.b_len rfl (db_cons (dc_v 1) db_nil)) da_nil)))) (ds_cons (ds_fld 0 g.cl g.n_own_moves (de_cty (r := Dc.rTup K) call_tuple_of lc_tup rfl g.b_tuple rfl (db_cons (dc_of (de_ow (dv_lc (own := [("line", 3)]) rfl sc_init.nd (di_lst (de_v 1)) (blkOk_by (own := [("line", 3)]) (by kernel_rfl)) (fun _ _ _ _ _ => (dg_name 3 sc_init.nd)) (fun _ _ _ _ _ => dts_nil) (fun _ _ _ _ _ => (de_cty (r := Dc.rTup K) call_tuple_of lc_tup rfl g.b_tuple rfl (db_cons (dc_v 3) db_nil))) (by decide)))) db_nil))) (ds_one (ds_fld 0 g.cl g.n_own_words (de_cty (r := Dc.rTup K) call_tuple_of lc_tup rfl g.b_tuple rfl (db_cons (dc_v 2) db_nil)))))))⟩
abbrev s_moves : Stmt := (C8.clsBody (top 30)).getD 1 (.Pass ⟨0, 0, 0, 0⟩)
def N_moves : List Str := ["self"]
theorem sc_moves : FnScope N_moves ["self"] (defScope s_moves) := ⟨rfl, rfl, rfl, by decide +kernel, rfl, by decide +kernel, by decide +kernel⟩
def d_moves {P : Program} {KV : KW} (G : Gc P KV) : DTS := (sRet (dFld G.C "own_moves" (dLook 0)))
theorem w_moves {G : Gc P ⟨K, w⟩} (g : Fx P w K mg G)  (hr : Room 0 (A.deeper (envOfC "Watch.moves" (defScope s_moves) s.heap.objs.size f cdv))) :
    ∃ t, DSs (cxOf CX0 P w K mg base N_moves "Watch.moves" (defScope s_moves) f cdv A outer s H E).nox (defBody s_moves) t (d_moves G) := by
  unfold d_moves
  exact ⟨_, (ds_one (ds_ret (de_fld g.cl g.n_own_moves (dc_v 0))))⟩
abbrev s_words : Stmt := (C8.clsBody (top 30)).getD 2 (.Pass ⟨0, 0, 0, 0⟩)
def N_words : List Str := ["self"]
theorem sc_words : FnScope N_words ["self"] (defScope s_words) := ⟨rfl, rfl, rfl, by decide +kernel, rfl, by decide +kernel, by decide +kernel⟩
def d_words {P : Program} {KV : KW} (G : Gc P KV) : DTS := (sRet (dFld G.C "own_words" (dLook 0)))
theorem w_words {G : Gc P ⟨K, w⟩} (g : Fx P w K mg G)  (hr : Room 0 (A.deeper (envOfC "Watch.words" (defScope s_words) s.heap.objs.size f cdv))) :
    ∃ t, DSs (cxOf CX0 P w K mg base N_words "Watch.words" (defScope s_words) f cdv A outer s H E).nox (defBody s_words) t (d_words G) := by
  unfold d_words
  exact ⟨_, (ds_one (ds_ret (de_fld g.cl g.n_own_words (dc_v 0))))⟩
abbrev s_kinds : Stmt := (C8.clsBody (top 30)).getD 3 (.Pass ⟨0, 0, 0, 0⟩)
def N_kinds : List Str := ["self"]
theorem sc_kinds : FnScope N_kinds ["self"] (defScope s_kinds) := ⟨rfl, rfl, rfl, by decide +kernel, rfl, by decide +kernel, by decide +kernel⟩
def d_kinds {P : Program} {KV : KW} (G : Gc P KV) : DTS := (sRet (dCB rdLen (bCons (dOp rdIx (dFld G.C "own_moves" (dLook 0)) (dK1 (.int 0))) bNil)))
theorem w_kinds {G : Gc P ⟨K, w⟩} (g : Fx P w K mg G)  (hr : Room 0 (A.deeper (envOfC "Watch.kinds" (defScope s_kinds) s.heap.objs.size f cdv))) :
    ∃ t, DSs (cxOf CX0 P w K mg base N_kinds "Watch.kinds" (defScope s_kinds) f cdv A outer s H E).nox (defBody s_kinds) t (d_kinds G) := by
  unfold d_kinds
  exact ⟨_, (ds_one (ds_ret (de_cb (r := Dc.rLen K) cr_len lc_len rfl g.b_len rfl (db_cons (dc_of (de_ix (r := rIx K) ix_seq lr_ix (dc_of (de_fld g.cl g.n_own_moves (dc_v 0))) (dc_of de_int))) db_nil))))⟩
abbrev s_need_watch : Stmt := top 31
def N_need_watch : List Str := ["watch", "part"]
theorem sc_need_watch : FnScope N_need_watch ["watch", "part"] (defScope s_need_watch) := ⟨rfl, rfl, rfl, by decide +kernel, rfl, by decide +kernel, by decide +kernel⟩
def d_need_watch {P : Program} {KV : KW} (G : Gc P KV) : DTS := (sIf (dNot (dTst (dIsC G.C (dLook 0)))) sNever sNext)
theorem w_need_watch {G : Gc P ⟨K, w⟩} (g : Fx P w K mg G)  (hr : Room 0 (A.deeper (envOfC "need_watch" (defScope s_need_watch) s.heap.objs.size f cdv))) :
    ∃ t, DSs (cxOf CX0 P w K mg base N_need_watch "need_watch" (defScope s_need_watch) f cdv A outer s H E).nox (defBody s_need_watch) t (d_need_watch G) := by
  unfold d_need_watch
  exact ⟨_, (ds_one (ds_if (dt_not (dt_val (de_isC g.ci rfl g.b_isinstance rfl g.v_Watch (dc_v 0)))) dss_never ds_nil))⟩
abbrev s_need_shown : Stmt := top 33
def N_need_shown : List Str := ["watch", "shown", "index", "item"]
theorem sc_need_shown : FnScope N_need_shown ["watch", "shown"] (defScope s_need_shown) := ⟨rfl, rfl, rfl, by decide +kernel, rfl, by decide +kernel, by decide +kernel⟩
def d_need_shown {P : Program} {KV : KW} (G : Gc P KV) : DTS := (sSeq (sIf (dOr (dNot (dTst (dCall G.S_is_list [] (dCons (dVar 1) dNil)))) (dTst (dOp rdGt (dCB rdLen (bCons (dLook 1) bNil)) (dK1 (.int 300))))) sNever sNext) (sFor (dEnum (dCons (dVar 1) dNil)) (gTupD 2 (gsCons (gSet 2) (gsCons (gSet 3) gsNil))) (sIf (dAnd (dTst (dMapB (fun x => !isNonD x) (dLook 3))) (dNot (dTst (dCall G.S_is_between [] (dCons (dVar 3) (dCons (dK1 (.int 0)) (dCons (dOp rdSub (dProp G.C G.S_kinds (dVar 0)) (dK1 (.int 1))) dNil))))))) sNever sNext)))
theorem w_need_shown {G : Gc P ⟨K, w⟩} (g : Fx P w K mg G) (k_is_between : Kn P w K mg base 2 "is_between" G.S_is_between []) (k_is_list : Kn P w K mg base 1 "is_list" G.S_is_list []) (p_kinds : KnP P w K mg base 1 G.C "kinds" G.S_kinds) (hr : Room 2 (A.deeper (envOfC "need_shown" (defScope s_need_shown) s.heap.objs.size f cdv))) :
    ∃ t, DSs (cxOf CX0 P w K mg base N_need_shown "need_shown" (defScope s_need_shown) f cdv A outer s H E).nox (defBody s_need_shown) t (d_need_shown G) := by
  unfold d_need_shown
  exact ⟨_, (ds_cons (ds_if (DW.dt (dw_or (dt_not (dt_val (de_callF k_is_list rfl rfl rfl rfl rfl hr (by decide) rfl (da_cons (de_v 1) da_nil)))) (dw_or1 (dt_cmp op_gt lr_gt (dc_of (de_cb (r := Dc.rLen K) cr_len lc_len rfl g.b_len rfl (db_cons (dc_v 1) db_nil))) (dc_of (de_gint rfl g.c_MOST_EVENTS)))))) dss_never ds_nil) (ds_one (ds_for PassesOwn.never rfl (di_enum rfl g.b_enumerate (da_cons (de_v 1) da_nil)) (dg_tupF (K := K) rfl rfl (dgs_cons (dg_name 2 sc_need_shown.nd) (dgs_cons (dg_name 3 sc_need_shown.nd) dgs_nil))) (ds_one (ds_if (DW.dt (dw_and (dt_notN (dc_v 3)) (dw_and1 (dt_not (dt_val (de_callF k_is_between rfl rfl rfl rfl rfl hr (by decide) rfl (da_cons (de_v 3) (da_cons de_int (da_cons (de_sub (dc_of (de_propF p_kinds rfl rfl rfl rfl rfl hr (by decide) (de_v 0))) (dc_of de_int)) da_nil))))))))) dss_never ds_nil)))))⟩
abbrev s_known_by : Stmt := top 36
def N_known_by : List Str := ["watch", "places", "kind", "place"]
theorem sc_known_by : FnScope N_known_by ["watch", "places", "kind"] (defScope s_known_by) := ⟨rfl, rfl, rfl, by decide +kernel, rfl, by decide +kernel, by decide +kernel⟩
def d_known_by {P : Program} {KV : KW} (G : Gc P KV) : DTS := (sRet (dCB rdTup (bCons (dCB rdSrtD (bCons (dDc (dItup (dVar 1)) (gSet 3) dYes (dOp rdIx (dOp rdIx (dProp G.C G.S_moves (dVar 0)) (dLook 3)) (dLook 2)) (dK1 .non) [3]) bNil)) bNil)))
theorem w_known_by {G : Gc P ⟨K, w⟩} (g : Fx P w K mg G) (p_moves : KnP P w K mg base 1 G.C "moves" G.S_moves) (hr : Room 2 (A.deeper (envOfC "known_by" (defScope s_known_by) s.heap.objs.size f cdv))) :
    ∃ t, DSs (cxOf CX0 P w K mg base N_known_by "known_by" (defScope s_known_by) f cdv A outer s H E).nox (defBody s_known_by) t (d_known_by G) := by
  unfold d_known_by
  exact ⟨_, (ds_one (ds_ret (de_cty (r := Dc.rTup K) call_tuple_of lc_tup rfl g.b_tuple rfl (db_cons (dc_of (de_cb (r := Dc.rSrtD w K) (cr_srtD (hu64 hr) rfl) lc_srtD rfl g.b_sorted rfl (db_cons (dc_of (de_ow (dv_dc (own := [("place", 3)]) rfl sc_known_by.nd (DI.dj (di_tup (de_v 1))) (blkOk_by (own := [("place", 3)]) (by kernel_rfl)) (fun _ _ _ _ _ => (dg_name 3 sc_known_by.nd)) (fun _ _ _ _ _ => dts_nil) (fun _ _ _ _ _ => (de_ix (r := rIx K) ix_seq lr_ix (dc_of (de_ix (r := rIx K) ix_seq lr_ix (dc_of (de_propF p_moves rfl rfl rfl rfl rfl hr (by decide) (de_v 0))) (dc_v 3))) (dc_v 2))) (fun _ _ _ _ _ => de_non) (by decide)))) db_nil))) db_nil))))⟩
abbrev s_next_by : Stmt := top 37
def N_next_by : List Str := ["watch", "places", "found", "place", "later"]
theorem sc_next_by : FnScope N_next_by ["watch", "places"] (defScope s_next_by) := ⟨rfl, rfl, rfl, by decide +kernel, rfl, by decide +kernel, by decide +kernel⟩
def d_next_by {P : Program} {KV : KW} (G : Gc P KV) : DTS := (sSeq (sSet 2 (vOw (dK1 (.dk [] [])))) (sSeq (sFor (dItup (dVar 1)) (gSet 3) (sExpr (dDm 2 mdUpdK (dCons (dDc (dItup (dOp rdIx (dProp G.C G.S_moves (dVar 0)) (dLook 3))) (gSet 4) dYes (dVar 4) (dK1 .non) [4]) dNil)))) (sRet (dCB rdTup (bCons (dCB rdSrtD (bCons (dLook 2) bNil)) bNil)))))
theorem w_next_by {G : Gc P ⟨K, w⟩} (g : Fx P w K mg G) (p_moves : KnP P w K mg base 1 G.C "moves" G.S_moves) (hr : Room 2 (A.deeper (envOfC "next_by" (defScope s_next_by) s.heap.objs.size f cdv))) :
    ∃ t, DSs (cxOf CX0 P w K mg base N_next_by "next_by" (defScope s_next_by) f cdv A outer s H E).nox (defBody s_next_by) t (d_next_by G) := by
  unfold d_next_by
  exact ⟨_, (ds_cons (ds_set 2 sc_next_by.nd dv_dK) (ds_cons (ds_for PassesOwn.never rfl (di_tup (de_v 1)) (dg_name 3 sc_next_by.nd) (ds_one (ds_expr (de_dm 2 PySem.F.slot_dict_update PySem.F.type_dict_update mt_updK lm_updK (da_cons (de_ow (dv_dc (own := [("later", 4)]) rfl sc_next_by.nd (DI.dj (di_tup (de_ix (r := rIx K) ix_seq lr_ix (dc_of (de_propF p_moves rfl rfl rfl rfl rfl hr (by decide) (de_v 0))) (dc_v 3)))) (blkOk_by (own := [("later", 4)]) (by kernel_rfl)) (fun _ _ _ _ _ => (dg_name 4 sc_next_by.nd)) (fun _ _ _ _ _ => dts_nil) (fun _ _ _ _ _ => (de_v 4)) (fun _ _ _ _ _ => de_non) (by decide))) da_nil))))) (ds_one (ds_ret (de_cty (r := Dc.rTup K) call_tuple_of lc_tup rfl g.b_tuple rfl (db_cons (dc_of (de_cb (r := Dc.rSrtD w K) (cr_srtD (hu64 hr) rfl) lc_srtD rfl g.b_sorted rfl (db_cons (dc_v 2) db_nil))) db_nil))))))⟩
abbrev s_reached_by : Stmt := top 38
def N_reached_by : List Str := ["watch", "places", "found", "line", "place"]
theorem sc_reached_by : FnScope N_reached_by ["watch", "places"] (defScope s_reached_by) := ⟨rfl, rfl, rfl, by decide +kernel, rfl, by decide +kernel, by decide +kernel⟩
def d_reached_by {P : Program} {KV : KW} (G : Gc P KV) : DTS := (sSeq (sPar 2 3 (vOw (dDc (dItup (dVar 1)) (gSet 4) dYes (dVar 4) (dK1 .non) [4])) (vOw (dCB rdLst (bCons (dLook 1) bNil)))) (sSeq (sWhile (dTst (dOp rdNeD (dLook 3) (dLst dNil))) (sFor (dItup (dOpE rdIx (dProp G.C G.S_moves (dVar 0)) (dMt 3 mdPop dNil))) (gSet 4) (sIf (dTst (dOp (rdDIn true) (dLook 4) (dLook 2))) (sSeq (sPut 2 sdD (dK1 .non) (dVar 4)) (sExpr (dMt 3 mdAppend (dCons (dVar 4) dNil)))) sNext))) (sRet (dCB rdTup (bCons (dCB rdSrtD (bCons (dLook 2) bNil)) bNil)))))
theorem w_reached_by {G : Gc P ⟨K, w⟩} (g : Fx P w K mg G) (p_moves : KnP P w K mg base 1 G.C "moves" G.S_moves) (hr : Room 2 (A.deeper (envOfC "reached_by" (defScope s_reached_by) s.heap.objs.size f cdv))) :
    ∃ t, DSs (cxOf CX0 P w K mg base N_reached_by "reached_by" (defScope s_reached_by) f cdv A outer s H E).nox (defBody s_reached_by) t (d_reached_by G) := by
  unfold d_reached_by
  exact ⟨_, (ds_cons (ds_par 2 3 rfl sc_reached_by.nd (dv_dc (own := [("place", 4)]) rfl sc_reached_by.nd (DI.dj (di_tup (de_v 1))) (blkOk_by (own := [("place", 4)]) (by kernel_rfl)) (fun _ _ _ _ _ => (dg_name 4 sc_reached_by.nd)) (fun _ _ _ _ _ => dts_nil) (fun _ _ _ _ _ => (de_v 4)) (fun _ _ _ _ _ => de_non) (by decide)) (dv_list rfl g.b_list rfl (db_cons (dc_v 1) db_nil))) (ds_cons (ds_while PassesOwn.never (dt_cmp (r := rNeD K) (op_neD (hu64 hr)) lr_neD (dc_v 3) (dc_of (de_lst da_nil))) (ds_one (ds_for PassesOwn.never rfl (di_tup (de_ixE (r := rIx K) ix_seq lr_ix (de_propF p_moves rfl rfl rfl rfl rfl hr (by decide) (de_v 0)) (de_bm0 3 PySem.F.slot_list_pop PySem.F.type_list_pop mt_pop lm_pop))) (dg_name 4 sc_reached_by.nd) (ds_one (ds_if (dt_cmp (op_dNotIn (hu1 hr)) (lr_dIn true) (dc_v 4) (dc_v 2)) (ds_cons (ds_put 2 (set_dict (hu1 hr)) ls_dict de_non (de_v 4)) (ds_one (ds_expr (de_bm 3 PySem.F.slot_list_append PySem.F.type_list_append mt_append lm_append (da_cons (de_v 4) da_nil))))) ds_nil))))) (ds_one (ds_ret (de_cty (r := Dc.rTup K) call_tuple_of lc_tup rfl g.b_tuple rfl (db_cons (dc_of (de_cb (r := Dc.rSrtD w K) (cr_srtD (hu64 hr) rfl) lc_srtD rfl g.b_sorted rfl (db_cons (dc_v 2) db_nil))) db_nil))))))⟩
abbrev s_unknown_by : Stmt := top 39
def N_unknown_by : List Str := ["watch", "places", "mode"]
theorem sc_unknown_by : FnScope N_unknown_by ["watch", "places", "mode"] (defScope s_unknown_by) := ⟨rfl, rfl, rfl, by decide +kernel, rfl, by decide +kernel, by decide +kernel⟩
def d_unknown_by {P : Program} {KV : KW} (G : Gc P KV) : DTS := (sRet (dIf (dTst (dOp rdEq (dLook 2) (dK1 (.str "counted")))) (dCall G.S_next_by [] (dCons (dVar 0) (dCons (dVar 1) dNil))) (dCall G.S_reached_by [] (dCons (dVar 0) (dCons (dVar 1) dNil)))))
theorem w_unknown_by {G : Gc P ⟨K, w⟩} (g : Fx P w K mg G) (k_next_by : Kn P w K mg base 3 "next_by" G.S_next_by []) (k_reached_by : Kn P w K mg base 3 "reached_by" G.S_reached_by []) (hr : Room 3 (A.deeper (envOfC "unknown_by" (defScope s_unknown_by) s.heap.objs.size f cdv))) :
    ∃ t, DSs (cxOf CX0 P w K mg base N_unknown_by "unknown_by" (defScope s_unknown_by) f cdv A outer s H E).nox (defBody s_unknown_by) t (d_unknown_by G) := by
  unfold d_unknown_by
  exact ⟨_, (ds_one (ds_ret (de_if (dt_cmp op_eq lr_eq (dc_v 2) (dc_of (de_gstr rfl g.c_COUNTED))) (de_callF k_next_by rfl rfl rfl rfl rfl hr (by decide) rfl (da_cons (de_v 0) (da_cons (de_v 1) da_nil))) (de_callF k_reached_by rfl rfl rfl rfl rfl hr (by decide) rfl (da_cons (de_v 0) (da_cons (de_v 1) da_nil))))))⟩
abbrev s_behind_by : Stmt := top 40
def N_behind_by : List Str := ["watch", "places", "item", "mode"]
theorem sc_behind_by : FnScope N_behind_by ["watch", "places", "item", "mode"] (defScope s_behind_by) := ⟨rfl, rfl, rfl, by decide +kernel, rfl, by decide +kernel, by decide +kernel⟩
def d_behind_by {P : Program} {KV : KW} (G : Gc P KV) : DTS := (sRet (dIf (dTst (dMapB isNonD (dLook 2))) (dCall G.S_unknown_by [] (dCons (dVar 0) (dCons (dVar 1) (dCons (dVar 3) dNil)))) (dCall G.S_known_by [] (dCons (dVar 0) (dCons (dVar 1) (dCons (dVar 2) dNil))))))
theorem w_behind_by {G : Gc P ⟨K, w⟩} (g : Fx P w K mg G) (k_known_by : Kn P w K mg base 3 "known_by" G.S_known_by []) (k_unknown_by : Kn P w K mg base 4 "unknown_by" G.S_unknown_by []) (hr : Room 4 (A.deeper (envOfC "behind_by" (defScope s_behind_by) s.heap.objs.size f cdv))) :
    ∃ t, DSs (cxOf CX0 P w K mg base N_behind_by "behind_by" (defScope s_behind_by) f cdv A outer s H E).nox (defBody s_behind_by) t (d_behind_by G) := by
  unfold d_behind_by
  exact ⟨_, (ds_one (ds_ret (de_if (dt_isN (dc_v 2)) (de_callF k_unknown_by rfl rfl rfl rfl rfl hr (by decide) rfl (da_cons (de_v 0) (da_cons (de_v 1) (da_cons (de_v 3) da_nil)))) (de_callF k_known_by rfl rfl rfl rfl rfl hr (by decide) rfl (da_cons (de_v 0) (da_cons (de_v 1) (da_cons (de_v 2) da_nil)))))))⟩
abbrev s_led_by : Stmt := top 41
def N_led_by : List Str := ["watch", "shown", "mode", "places", "item"]
theorem sc_led_by : FnScope N_led_by ["watch", "shown", "mode"] (defScope s_led_by) := ⟨rfl, rfl, rfl, by decide +kernel, rfl, by decide +kernel, by decide +kernel⟩
def d_led_by {P : Program} {KV : KW} (G : Gc P KV) : DTS := (sSeq (sSet 3 (vSh (dK1 (.tup [.int 0])))) (sSeq (sFor (dIlst (dVar 1)) (gSet 4) (sSet 3 (vSh (dCall G.S_behind_by [] (dCons (dVar 0) (dCons (dVar 3) (dCons (dVar 4) (dCons (dVar 2) dNil)))))))) (sRet (dVar 3))))
theorem w_led_by {G : Gc P ⟨K, w⟩} (g : Fx P w K mg G) (k_behind_by : Kn P w K mg base 5 "behind_by" G.S_behind_by []) (hr : Room 5 (A.deeper (envOfC "led_by" (defScope s_led_by) s.heap.objs.size f cdv))) :
    ∃ t, DSs (cxOf CX0 P w K mg base N_led_by "led_by" (defScope s_led_by) f cdv A outer s H E).nox (defBody s_led_by) t (d_led_by G) := by
  unfold d_led_by
  exact ⟨_, (ds_cons (ds_set 3 sc_led_by.nd (dv_of (de_gtup rfl g.c_BEGIN g.r_BEGIN))) (ds_cons (ds_for PassesOwn.never rfl (di_lst (de_v 1)) (dg_name 4 sc_led_by.nd) (ds_one (ds_set 3 sc_led_by.nd (dv_of (de_callF k_behind_by rfl rfl rfl rfl rfl hr (by decide) rfl (da_cons (de_v 0) (da_cons (de_v 3) (da_cons (de_v 4) (da_cons (de_v 2) da_nil))))))))) (ds_one (ds_ret (de_v 3)))))⟩
abbrev s_can_lead : Stmt := top 42
def N_can_lead : List Str := ["watch", "shown", "mode"]
theorem sc_can_lead : FnScope N_can_lead ["watch", "shown", "mode"] (defScope s_can_lead) := ⟨rfl, rfl, rfl, by decide +kernel, rfl, by decide +kernel, by decide +kernel⟩
def d_can_lead {P : Program} {KV : KW} (G : Gc P KV) : DTS := (sSeq (sExpr (dCall G.S_need_watch [.non] (dCons (dVar 0) dNil))) (sSeq (sExpr (dCall G.S_need_shown [] (dCons (dVar 0) (dCons (dVar 1) dNil)))) (sSeq (sExpr (dCall G.S_need_mode [] (dCons (dVar 2) dNil))) (sRet (dCall G.S_led_by [] (dCons (dVar 0) (dCons (dVar 1) (dCons (dVar 2) dNil))))))))
theorem w_can_lead {G : Gc P ⟨K, w⟩} (g : Fx P w K mg G) (k_led_by : Kn P w K mg base 6 "led_by" G.S_led_by []) (k_need_mode : Kn P w K mg base 2 "need_mode" G.S_need_mode []) (k_need_shown : Kn P w K mg base 3 "need_shown" G.S_need_shown []) (k_need_watch_1 : Kn P w K mg base 1 "need_watch" G.S_need_watch [.non]) (hr : Room 6 (A.deeper (envOfC "can_lead" (defScope s_can_lead) s.heap.objs.size f cdv))) :
    ∃ t, DSs (cxOf CX0 P w K mg base N_can_lead "can_lead" (defScope s_can_lead) f cdv A outer s H E).nox (defBody s_can_lead) t (d_can_lead G) := by
  unfold d_can_lead
  exact ⟨_, (ds_cons (ds_expr (de_callF k_need_watch_1 rfl rfl rfl rfl rfl hr (by decide) rfl (da_cons (de_v 0) da_nil))) (ds_cons (ds_expr (de_callF k_need_shown rfl rfl rfl rfl rfl hr (by decide) rfl (da_cons (de_v 0) (da_cons (de_v 1) da_nil)))) (ds_cons (ds_expr (de_callF k_need_mode rfl rfl rfl rfl rfl hr (by decide) rfl (da_cons (de_v 2) da_nil))) (ds_one (ds_ret (de_callF k_led_by rfl rfl rfl rfl rfl hr (by decide) rfl (da_cons (de_v 0) (da_cons (de_v 1) (da_cons (de_v 2) da_nil)))))))))⟩
abbrev s_pair_behind : Stmt := top 44
def N_pair_behind : List Str := ["old", "new", "pair", "kind"]
theorem sc_pair_behind : FnScope N_pair_behind ["old", "new", "pair", "kind"] (defScope s_pair_behind) := ⟨rfl, rfl, rfl, by decide +kernel, rfl, by decide +kernel, by decide +kernel⟩
def d_pair_behind {P : Program} {KV : KW} (G : Gc P KV) : DTS := (sRet (dTup (dCons (dOp rdIx (dOp rdIx (dProp G.C G.S_moves (dVar 0)) (dOp rdIx (dLook 2) (dK1 (.int 0)))) (dLook 3)) (dCons (dOp rdIx (dOp rdIx (dProp G.C G.S_moves (dVar 1)) (dOp rdIx (dLook 2) (dK1 (.int 1)))) (dLook 3)) dNil))))
theorem w_pair_behind {G : Gc P ⟨K, w⟩} (g : Fx P w K mg G) (p_moves : KnP P w K mg base 1 G.C "moves" G.S_moves) (hr : Room 2 (A.deeper (envOfC "pair_behind" (defScope s_pair_behind) s.heap.objs.size f cdv))) :
    ∃ t, DSs (cxOf CX0 P w K mg base N_pair_behind "pair_behind" (defScope s_pair_behind) f cdv A outer s H E).nox (defBody s_pair_behind) t (d_pair_behind G) := by
  unfold d_pair_behind
  exact ⟨_, (ds_one (ds_ret (de_tup (da_cons (de_ix (r := rIx K) ix_seq lr_ix (dc_of (de_ix (r := rIx K) ix_seq lr_ix (dc_of (de_propF p_moves rfl rfl rfl rfl rfl hr (by decide) (de_v 0))) (dc_of (de_ix (r := rIx K) ix_seq lr_ix (dc_v 2) (dc_of de_int))))) (dc_v 3)) (da_cons (de_ix (r := rIx K) ix_seq lr_ix (dc_of (de_ix (r := rIx K) ix_seq lr_ix (dc_of (de_propF p_moves rfl rfl rfl rfl rfl hr (by decide) (de_v 1))) (dc_of (de_ix (r := rIx K) ix_seq lr_ix (dc_v 2) (dc_of de_int))))) (dc_v 3)) da_nil)))))⟩
abbrev s_pairs_known : Stmt := top 45
def N_pairs_known : List Str := ["old", "new", "pairs", "kind", "pair"]
theorem sc_pairs_known : FnScope N_pairs_known ["old", "new", "pairs", "kind"] (defScope s_pairs_known) := ⟨rfl, rfl, rfl, by decide +kernel, rfl, by decide +kernel, by decide +kernel⟩
def d_pairs_known {P : Program} {KV : KW} (G : Gc P KV) : DTS := (sRet (dCB rdTup (bCons (dCB rdSrtD (bCons (dDcN (dItup (dVar 2)) (gSet 4) dYes (dCall G.S_pair_behind [] (dCons (dVar 0) (dCons (dVar 1) (dCons (dVar 4) (dCons (dVar 3) dNil))))) (dK1 .non) [4]) bNil)) bNil)))
theorem w_pairs_known {G : Gc P ⟨K, w⟩} (g : Fx P w K mg G) (k_pair_behind : Kn P w K mg base 3 "pair_behind" G.S_pair_behind []) (hr : Room 3 (A.deeper (envOfC "pairs_known" (defScope s_pairs_known) s.heap.objs.size f cdv))) :
    ∃ t, DSs (cxOf CX0 P w K mg base N_pairs_known "pairs_known" (defScope s_pairs_known) f cdv A outer s H E).nox (defBody s_pairs_known) t (d_pairs_known G) := by
  unfold d_pairs_known
  exact ⟨_, (ds_one (ds_ret (de_cty (r := Dc.rTup K) call_tuple_of lc_tup rfl g.b_tuple rfl (db_cons (dc_of (de_cb (r := Dc.rSrtD w K) (cr_srtD (hu64 hr) rfl) lc_srtD rfl g.b_sorted rfl (db_cons (dc_of (de_ow (dv_dcN (own := [("pair", 4)]) (hu64 hr) rfl sc_pairs_known.nd (DI.dj (di_tup (de_v 2))) (blkOk_by (own := [("pair", 4)]) (by kernel_rfl)) (fun _ _ _ _ _ => (dg_name 4 sc_pairs_known.nd)) (fun _ _ _ _ _ => dts_nil) (fun _ _ _ _ _ => (de_callF k_pair_behind rfl rfl rfl rfl rfl hr (by decide) rfl (da_cons (de_v 0) (da_cons (de_v 1) (da_cons (de_v 4) (da_cons (de_v 3) da_nil)))))) (fun _ _ _ _ _ => de_non) (by decide)))) db_nil))) db_nil))))⟩
abbrev s_pairs_next : Stmt := top 46
def N_pairs_next : List Str := ["old", "new", "pairs", "found", "pair", "kind"]
theorem sc_pairs_next : FnScope N_pairs_next ["old", "new", "pairs"] (defScope s_pairs_next) := ⟨rfl, rfl, rfl, by decide +kernel, rfl, by decide +kernel, by decide +kernel⟩
def d_pairs_next {P : Program} {KV : KW} (G : Gc P KV) : DTS := (sSeq (sSet 3 (vOw (dK1 (.dn [] [])))) (sSeq (sFor (dItup (dVar 2)) (gSet 4) (sExpr (dDm 3 mdUpdN (dCons (dDcN (dRng1 (bCons (dProp G.C G.S_kinds (dVar 0)) bNil)) (gSet 5) dYes (dCall G.S_pair_behind [] (dCons (dVar 0) (dCons (dVar 1) (dCons (dVar 4) (dCons (dVar 5) dNil))))) (dK1 .non) [5]) dNil)))) (sRet (dCB rdTup (bCons (dCB rdSrtD (bCons (dLook 3) bNil)) bNil)))))
theorem w_pairs_next {G : Gc P ⟨K, w⟩} (g : Fx P w K mg G) (k_pair_behind : Kn P w K mg base 3 "pair_behind" G.S_pair_behind []) (p_kinds : KnP P w K mg base 1 G.C "kinds" G.S_kinds) (hr : Room 3 (A.deeper (envOfC "pairs_next" (defScope s_pairs_next) s.heap.objs.size f cdv))) :
    ∃ t, DSs (cxOf CX0 P w K mg base N_pairs_next "pairs_next" (defScope s_pairs_next) f cdv A outer s H E).nox (defBody s_pairs_next) t (d_pairs_next G) := by
  unfold d_pairs_next
  exact ⟨_, (ds_cons (ds_set 3 sc_pairs_next.nd dv_dN) (ds_cons (ds_for PassesOwn.never rfl (di_tup (de_v 2)) (dg_name 4 sc_pairs_next.nd) (ds_one (ds_expr (de_dm 3 PySem.F.slot_dict_update PySem.F.type_dict_update (mt_updN (hu64 hr)) lm_updN (da_cons (de_ow (dv_dcN (own := [("kind", 5)]) (hu64 hr) rfl sc_pairs_next.nd (DI.dj (di_rng1 rfl g.b_range (db_cons (dc_of (de_propF p_kinds rfl rfl rfl rfl rfl hr (by decide) (de_v 0))) db_nil))) (blkOk_by (own := [("kind", 5)]) (by kernel_rfl)) (fun _ _ _ _ _ => (dg_name 5 sc_pairs_next.nd)) (fun _ _ _ _ _ => dts_nil) (fun _ _ _ _ _ => (de_callF k_pair_behind rfl rfl rfl rfl rfl hr (by decide) rfl (da_cons (de_v 0) (da_cons (de_v 1) (da_cons (de_v 4) (da_cons (de_v 5) da_nil)))))) (fun _ _ _ _ _ => de_non) (by decide))) da_nil))))) (ds_one (ds_ret (de_cty (r := Dc.rTup K) call_tuple_of lc_tup rfl g.b_tuple rfl (db_cons (dc_of (de_cb (r := Dc.rSrtD w K) (cr_srtD (hu64 hr) rfl) lc_srtD rfl g.b_sorted rfl (db_cons (dc_v 3) db_nil))) db_nil))))))⟩
abbrev s_pairs_reached : Stmt := top 47
def N_pairs_reached : List Str := ["old", "new", "pairs", "found", "line", "pair"]
theorem sc_pairs_reached : FnScope N_pairs_reached ["old", "new", "pairs"] (defScope s_pairs_reached) := ⟨rfl, rfl, rfl, by decide +kernel, rfl, by decide +kernel, by decide +kernel⟩
def d_pairs_reached {P : Program} {KV : KW} (G : Gc P KV) : DTS := (sSeq (sPar 3 4 (vOw (dDcN (dItup (dVar 2)) (gSet 5) dYes (dVar 5) (dK1 .non) [5])) (vOw (dCB rdLst (bCons (dLook 2) bNil)))) (sSeq (sWhile (dTst (dOp rdNeD (dLook 4) (dLst dNil))) (sFor (dItup (dCall G.S_pairs_next [] (dCons (dVar 0) (dCons (dVar 1) (dCons (dTup (dCons (dMt 4 mdPop dNil) dNil)) dNil))))) (gSet 5) (sIf (dTst (dOp (rdNIn true) (dLook 5) (dLook 3))) (sSeq (sPut 3 sdN (dK1 .non) (dVar 5)) (sExpr (dMt 4 mdAppend (dCons (dVar 5) dNil)))) sNext))) (sRet (dCB rdTup (bCons (dCB rdSrtD (bCons (dLook 3) bNil)) bNil)))))
theorem w_pairs_reached {G : Gc P ⟨K, w⟩} (g : Fx P w K mg G) (k_pairs_next : Kn P w K mg base 4 "pairs_next" G.S_pairs_next []) (hr : Room 4 (A.deeper (envOfC "pairs_reached" (defScope s_pairs_reached) s.heap.objs.size f cdv))) :
    ∃ t, DSs (cxOf CX0 P w K mg base N_pairs_reached "pairs_reached" (defScope s_pairs_reached) f cdv A outer s H E).nox (defBody s_pairs_reached) t (d_pairs_reached G) := by
  unfold d_pairs_reached
  exact ⟨_, (ds_cons (ds_par 3 4 rfl sc_pairs_reached.nd (dv_dcN (own := [("pair", 5)]) (hu64 hr) rfl sc_pairs_reached.nd (DI.dj (di_tup (de_v 2))) (blkOk_by (own := [("pair", 5)]) (by kernel_rfl)) (fun _ _ _ _ _ => (dg_name 5 sc_pairs_reached.nd)) (fun _ _ _ _ _ => dts_nil) (fun _ _ _ _ _ => (de_v 5)) (fun _ _ _ _ _ => de_non) (by decide)) (dv_list rfl g.b_list rfl (db_cons (dc_v 2) db_nil))) (ds_cons (ds_while PassesOwn.never (dt_cmp (r := rNeD K) (op_neD (hu64 hr)) lr_neD (dc_v 4) (dc_of (de_lst da_nil))) (ds_one (ds_for PassesOwn.never rfl (di_tup (de_callF k_pairs_next rfl rfl rfl rfl rfl hr (by decide) rfl (da_cons (de_v 0) (da_cons (de_v 1) (da_cons (de_tup (da_cons (de_bm0 4 PySem.F.slot_list_pop PySem.F.type_list_pop mt_pop lm_pop) da_nil)) da_nil))))) (dg_name 5 sc_pairs_reached.nd) (ds_one (ds_if (dt_cmp (op_nNotIn (hu64 hr)) (lr_nIn true) (dc_v 5) (dc_v 3)) (ds_cons (ds_put 3 (set_dictN (hu64 hr)) ls_dictN de_non (de_v 5)) (ds_one (ds_expr (de_bm 4 PySem.F.slot_list_append PySem.F.type_list_append mt_append lm_append (da_cons (de_v 5) da_nil))))) ds_nil))))) (ds_one (ds_ret (de_cty (r := Dc.rTup K) call_tuple_of lc_tup rfl g.b_tuple rfl (db_cons (dc_of (de_cb (r := Dc.rSrtD w K) (cr_srtD (hu64 hr) rfl) lc_srtD rfl g.b_sorted rfl (db_cons (dc_v 3) db_nil))) db_nil))))))⟩
abbrev s_both_behind : Stmt := top 48
def N_both_behind : List Str := ["old", "new", "pairs", "item", "mode"]
theorem sc_both_behind : FnScope N_both_behind ["old", "new", "pairs", "item", "mode"] (defScope s_both_behind) := ⟨rfl, rfl, rfl, by decide +kernel, rfl, by decide +kernel, by decide +kernel⟩
def d_both_behind {P : Program} {KV : KW} (G : Gc P KV) : DTS := (sSeq (sIf (dTst (dMapB (fun x => !isNonD x) (dLook 3))) (sRet (dCall G.S_pairs_known [] (dCons (dVar 0) (dCons (dVar 1) (dCons (dVar 2) (dCons (dVar 3) dNil)))))) sNext) (sRet (dIf (dTst (dOp rdEq (dLook 4) (dK1 (.str "counted")))) (dCall G.S_pairs_next [] (dCons (dVar 0) (dCons (dVar 1) (dCons (dVar 2) dNil)))) (dCall G.S_pairs_reached [] (dCons (dVar 0) (dCons (dVar 1) (dCons (dVar 2) dNil)))))))
theorem w_both_behind {G : Gc P ⟨K, w⟩} (g : Fx P w K mg G) (k_pairs_known : Kn P w K mg base 4 "pairs_known" G.S_pairs_known []) (k_pairs_next : Kn P w K mg base 4 "pairs_next" G.S_pairs_next []) (k_pairs_reached : Kn P w K mg base 5 "pairs_reached" G.S_pairs_reached []) (hr : Room 5 (A.deeper (envOfC "both_behind" (defScope s_both_behind) s.heap.objs.size f cdv))) :
    ∃ t, DSs (cxOf CX0 P w K mg base N_both_behind "both_behind" (defScope s_both_behind) f cdv A outer s H E).nox (defBody s_both_behind) t (d_both_behind G) := by
  unfold d_both_behind
  exact ⟨_, (ds_cons (ds_if (dt_notN (dc_v 3)) (ds_one (ds_ret (de_callF k_pairs_known rfl rfl rfl rfl rfl hr (by decide) rfl (da_cons (de_v 0) (da_cons (de_v 1) (da_cons (de_v 2) (da_cons (de_v 3) da_nil))))))) ds_nil) (ds_one (ds_ret (de_if (dt_cmp op_eq lr_eq (dc_v 4) (dc_of (de_gstr rfl g.c_COUNTED))) (de_callF k_pairs_next rfl rfl rfl rfl rfl hr (by decide) rfl (da_cons (de_v 0) (da_cons (de_v 1) (da_cons (de_v 2) da_nil)))) (de_callF k_pairs_reached rfl rfl rfl rfl rfl hr (by decide) rfl (da_cons (de_v 0) (da_cons (de_v 1) (da_cons (de_v 2) da_nil))))))))⟩
abbrev s_need_told : Stmt := top 51
def N_need_told : List Str := ["told", "kept"]
theorem sc_need_told : FnScope N_need_told ["told", "kept"] (defScope s_need_told) := ⟨rfl, rfl, rfl, by decide +kernel, rfl, by decide +kernel, by decide +kernel⟩
def d_need_told {P : Program} {KV : KW} (G : Gc P KV) : DTS := (sSeq (sExpr (dCall G.S_need_watch [] (dCons (dVar 0) (dCons (dK1 (.str "told")) dNil)))) (sSeq (sExpr (dCall G.S_need_watch [] (dCons (dVar 1) (dCons (dK1 (.str "kept")) dNil)))) (sIf (dTst (dOp rdNe (dProp G.C G.S_kinds (dVar 0)) (dProp G.C G.S_kinds (dVar 1)))) sNever sNext)))
theorem w_need_told {G : Gc P ⟨K, w⟩} (g : Fx P w K mg G) (k_need_watch : Kn P w K mg base 1 "need_watch" G.S_need_watch []) (p_kinds : KnP P w K mg base 1 G.C "kinds" G.S_kinds) (hr : Room 2 (A.deeper (envOfC "need_told" (defScope s_need_told) s.heap.objs.size f cdv))) :
    ∃ t, DSs (cxOf CX0 P w K mg base N_need_told "need_told" (defScope s_need_told) f cdv A outer s H E).nox (defBody s_need_told) t (d_need_told G) := by
  unfold d_need_told
  exact ⟨_, (ds_cons (ds_expr (de_callF k_need_watch rfl rfl rfl rfl rfl hr (by decide) rfl (da_cons (de_v 0) (da_cons de_str da_nil)))) (ds_cons (ds_expr (de_callF k_need_watch rfl rfl rfl rfl rfl hr (by decide) rfl (da_cons (de_v 1) (da_cons de_str da_nil)))) (ds_one (ds_if (dt_cmp op_ne lr_ne (dc_of (de_propF p_kinds rfl rfl rfl rfl rfl hr (by decide) (de_v 0))) (dc_of (de_propF p_kinds rfl rfl rfl rfl rfl hr (by decide) (de_v 1)))) dss_never ds_nil))))⟩
abbrev s_both_by : Stmt := top 52
def N_both_by : List Str := ["told", "kept", "shown", "mode", "pairs", "item"]
theorem sc_both_by : FnScope N_both_by ["told", "kept", "shown", "mode"] (defScope s_both_by) := ⟨rfl, rfl, rfl, by decide +kernel, rfl, by decide +kernel, by decide +kernel⟩
def d_both_by {P : Program} {KV : KW} (G : Gc P KV) : DTS := (sSeq (sSet 4 (vSh (dK1 (.tup [(.tup [.int 0, .int 0])])))) (sSeq (sFor (dIlst (dVar 2)) (gSet 5) (sSet 4 (vSh (dCall G.S_both_behind [] (dCons (dVar 0) (dCons (dVar 1) (dCons (dVar 4) (dCons (dVar 5) (dCons (dVar 3) dNil))))))))) (sRet (dVar 4))))
theorem w_both_by {G : Gc P ⟨K, w⟩} (g : Fx P w K mg G) (k_both_behind : Kn P w K mg base 6 "both_behind" G.S_both_behind []) (hr : Room 6 (A.deeper (envOfC "both_by" (defScope s_both_by) s.heap.objs.size f cdv))) :
    ∃ t, DSs (cxOf CX0 P w K mg base N_both_by "both_by" (defScope s_both_by) f cdv A outer s H E).nox (defBody s_both_by) t (d_both_by G) := by
  unfold d_both_by
  exact ⟨_, (ds_cons (ds_set 4 sc_both_by.nd (dv_of (de_gtup rfl g.c_BOTH_BEGIN g.r_BOTH_BEGIN))) (ds_cons (ds_for PassesOwn.never rfl (di_lst (de_v 2)) (dg_name 5 sc_both_by.nd) (ds_one (ds_set 4 sc_both_by.nd (dv_of (de_callF k_both_behind rfl rfl rfl rfl rfl hr (by decide) rfl (da_cons (de_v 0) (da_cons (de_v 1) (da_cons (de_v 4) (da_cons (de_v 5) (da_cons (de_v 3) da_nil)))))))))) (ds_one (ds_ret (de_v 4)))))⟩
abbrev s_words_kept : Stmt := top 53
def N_words_kept : List Str := ["kept", "pairs", "pair"]
theorem sc_words_kept : FnScope N_words_kept ["kept", "pairs"] (defScope s_words_kept) := ⟨rfl, rfl, rfl, by decide +kernel, rfl, by decide +kernel, by decide +kernel⟩
def d_words_kept {P : Program} {KV : KW} (G : Gc P KV) : DTS := (sRet (dCB rdTup (bCons (dCB rdSrtD (bCons (dDc (dItup (dVar 1)) (gSet 2) dYes (dOp rdIx (dProp G.C G.S_words (dVar 0)) (dOp rdIx (dLook 2) (dK1 (.int 1)))) (dK1 .non) [2]) bNil)) bNil)))
theorem w_words_kept {G : Gc P ⟨K, w⟩} (g : Fx P w K mg G) (p_words : KnP P w K mg base 1 G.C "words" G.S_words) (hr : Room 2 (A.deeper (envOfC "words_kept" (defScope s_words_kept) s.heap.objs.size f cdv))) :
    ∃ t, DSs (cxOf CX0 P w K mg base N_words_kept "words_kept" (defScope s_words_kept) f cdv A outer s H E).nox (defBody s_words_kept) t (d_words_kept G) := by
  unfold d_words_kept
  exact ⟨_, (ds_one (ds_ret (de_cty (r := Dc.rTup K) call_tuple_of lc_tup rfl g.b_tuple rfl (db_cons (dc_of (de_cb (r := Dc.rSrtD w K) (cr_srtD (hu64 hr) rfl) lc_srtD rfl g.b_sorted rfl (db_cons (dc_of (de_ow (dv_dc (own := [("pair", 2)]) rfl sc_words_kept.nd (DI.dj (di_tup (de_v 1))) (blkOk_by (own := [("pair", 2)]) (by kernel_rfl)) (fun _ _ _ _ _ => (dg_name 2 sc_words_kept.nd)) (fun _ _ _ _ _ => dts_nil) (fun _ _ _ _ _ => (de_ix (r := rIx K) ix_seq lr_ix (dc_of (de_propF p_words rfl rfl rfl rfl rfl hr (by decide) (de_v 0))) (dc_of (de_ix (r := rIx K) ix_seq lr_ix (dc_v 2) (dc_of de_int))))) (fun _ _ _ _ _ => de_non) (by decide)))) db_nil))) db_nil))))⟩
abbrev s_leak_by : Stmt := top 54
def N_leak_by : List Str := ["told", "kept", "shown", "mode"]
theorem sc_leak_by : FnScope N_leak_by ["told", "kept", "shown", "mode"] (defScope s_leak_by) := ⟨rfl, rfl, rfl, by decide +kernel, rfl, by decide +kernel, by decide +kernel⟩
def d_leak_by {P : Program} {KV : KW} (G : Gc P KV) : DTS := (sRet (dCall G.S_words_kept [] (dCons (dVar 1) (dCons (dCall G.S_both_by [] (dCons (dVar 0) (dCons (dVar 1) (dCons (dVar 2) (dCons (dVar 3) dNil))))) dNil))))
theorem w_leak_by {G : Gc P ⟨K, w⟩} (g : Fx P w K mg G) (k_both_by : Kn P w K mg base 7 "both_by" G.S_both_by []) (k_words_kept : Kn P w K mg base 3 "words_kept" G.S_words_kept []) (hr : Room 7 (A.deeper (envOfC "leak_by" (defScope s_leak_by) s.heap.objs.size f cdv))) :
    ∃ t, DSs (cxOf CX0 P w K mg base N_leak_by "leak_by" (defScope s_leak_by) f cdv A outer s H E).nox (defBody s_leak_by) t (d_leak_by G) := by
  unfold d_leak_by
  exact ⟨_, (ds_one (ds_ret (de_callF k_words_kept rfl rfl rfl rfl rfl hr (by decide) rfl (da_cons (de_v 1) (da_cons (de_callF k_both_by rfl rfl rfl rfl rfl hr (by decide) rfl (da_cons (de_v 0) (da_cons (de_v 1) (da_cons (de_v 2) (da_cons (de_v 3) da_nil))))) da_nil)))))⟩
abbrev s_need_told_shown : Stmt := top 55
def N_need_told_shown : List Str := ["told", "kept", "shown", "mode"]
theorem sc_need_told_shown : FnScope N_need_told_shown ["told", "kept", "shown", "mode"] (defScope s_need_told_shown) := ⟨rfl, rfl, rfl, by decide +kernel, rfl, by decide +kernel, by decide +kernel⟩
def d_need_told_shown {P : Program} {KV : KW} (G : Gc P KV) : DTS := (sSeq (sExpr (dCall G.S_need_told [] (dCons (dVar 0) (dCons (dVar 1) dNil)))) (sSeq (sExpr (dCall G.S_need_shown [] (dCons (dVar 0) (dCons (dVar 2) dNil)))) (sExpr (dCall G.S_need_mode [] (dCons (dVar 3) dNil)))))
theorem w_need_told_shown {G : Gc P ⟨K, w⟩} (g : Fx P w K mg G) (k_need_mode : Kn P w K mg base 2 "need_mode" G.S_need_mode []) (k_need_shown : Kn P w K mg base 3 "need_shown" G.S_need_shown []) (k_need_told : Kn P w K mg base 3 "need_told" G.S_need_told []) (hr : Room 3 (A.deeper (envOfC "need_told_shown" (defScope s_need_told_shown) s.heap.objs.size f cdv))) :
    ∃ t, DSs (cxOf CX0 P w K mg base N_need_told_shown "need_told_shown" (defScope s_need_told_shown) f cdv A outer s H E).nox (defBody s_need_told_shown) t (d_need_told_shown G) := by
  unfold d_need_told_shown
  exact ⟨_, (ds_cons (ds_expr (de_callF k_need_told rfl rfl rfl rfl rfl hr (by decide) rfl (da_cons (de_v 0) (da_cons (de_v 1) da_nil)))) (ds_cons (ds_expr (de_callF k_need_shown rfl rfl rfl rfl rfl hr (by decide) rfl (da_cons (de_v 0) (da_cons (de_v 2) da_nil)))) (ds_one (ds_expr (de_callF k_need_mode rfl rfl rfl rfl rfl hr (by decide) rfl (da_cons (de_v 3) da_nil))))))⟩
abbrev s_both_lead : Stmt := top 56
def N_both_lead : List Str := ["told", "kept", "shown", "mode"]
theorem sc_both_lead : FnScope N_both_lead ["told", "kept", "shown", "mode"] (defScope s_both_lead) := ⟨rfl, rfl, rfl, by decide +kernel, rfl, by decide +kernel, by decide +kernel⟩
def d_both_lead {P : Program} {KV : KW} (G : Gc P KV) : DTS := (sSeq (sExpr (dCall G.S_need_told_shown [] (dCons (dVar 0) (dCons (dVar 1) (dCons (dVar 2) (dCons (dVar 3) dNil)))))) (sRet (dCall G.S_both_by [] (dCons (dVar 0) (dCons (dVar 1) (dCons (dVar 2) (dCons (dVar 3) dNil)))))))
theorem w_both_lead {G : Gc P ⟨K, w⟩} (g : Fx P w K mg G) (k_both_by : Kn P w K mg base 7 "both_by" G.S_both_by []) (k_need_told_shown : Kn P w K mg base 4 "need_told_shown" G.S_need_told_shown []) (hr : Room 7 (A.deeper (envOfC "both_lead" (defScope s_both_lead) s.heap.objs.size f cdv))) :
    ∃ t, DSs (cxOf CX0 P w K mg base N_both_lead "both_lead" (defScope s_both_lead) f cdv A outer s H E).nox (defBody s_both_lead) t (d_both_lead G) := by
  unfold d_both_lead
  exact ⟨_, (ds_cons (ds_expr (de_callF k_need_told_shown rfl rfl rfl rfl rfl hr (by decide) rfl (da_cons (de_v 0) (da_cons (de_v 1) (da_cons (de_v 2) (da_cons (de_v 3) da_nil)))))) (ds_one (ds_ret (de_callF k_both_by rfl rfl rfl rfl rfl hr (by decide) rfl (da_cons (de_v 0) (da_cons (de_v 1) (da_cons (de_v 2) (da_cons (de_v 3) da_nil))))))))⟩
abbrev s_leak : Stmt := top 57
def N_leak : List Str := ["told", "kept", "shown", "mode"]
theorem sc_leak : FnScope N_leak ["told", "kept", "shown", "mode"] (defScope s_leak) := ⟨rfl, rfl, rfl, by decide +kernel, rfl, by decide +kernel, by decide +kernel⟩
def d_leak {P : Program} {KV : KW} (G : Gc P KV) : DTS := (sSeq (sExpr (dCall G.S_need_told_shown [] (dCons (dVar 0) (dCons (dVar 1) (dCons (dVar 2) (dCons (dVar 3) dNil)))))) (sRet (dCall G.S_leak_by [] (dCons (dVar 0) (dCons (dVar 1) (dCons (dVar 2) (dCons (dVar 3) dNil)))))))
theorem w_leak {G : Gc P ⟨K, w⟩} (g : Fx P w K mg G) (k_leak_by : Kn P w K mg base 8 "leak_by" G.S_leak_by []) (k_need_told_shown : Kn P w K mg base 4 "need_told_shown" G.S_need_told_shown []) (hr : Room 8 (A.deeper (envOfC "leak" (defScope s_leak) s.heap.objs.size f cdv))) :
    ∃ t, DSs (cxOf CX0 P w K mg base N_leak "leak" (defScope s_leak) f cdv A outer s H E).nox (defBody s_leak) t (d_leak G) := by
  unfold d_leak
  exact ⟨_, (ds_cons (ds_expr (de_callF k_need_told_shown rfl rfl rfl rfl rfl hr (by decide) rfl (da_cons (de_v 0) (da_cons (de_v 1) (da_cons (de_v 2) (da_cons (de_v 3) da_nil)))))) (ds_one (ds_ret (de_callF k_leak_by rfl rfl rfl rfl rfl hr (by decide) rfl (da_cons (de_v 0) (da_cons (de_v 1) (da_cons (de_v 2) (da_cons (de_v 3) da_nil))))))))⟩
abbrev s_need_weights : Stmt := top 60
def N_need_weights : List Str := ["watch", "weights", "index", "weight"]
theorem sc_need_weights : FnScope N_need_weights ["watch", "weights"] (defScope s_need_weights) := ⟨rfl, rfl, rfl, by decide +kernel, rfl, by decide +kernel, by decide +kernel⟩
def d_need_weights {P : Program} {KV : KW} (G : Gc P KV) : DTS := (sSeq (sIf (dOr (dNot (dTst (dCall G.S_is_list [] (dCons (dVar 1) dNil)))) (dTst (dOp rdNe (dCB rdLen (bCons (dLook 1) bNil)) (dProp G.C G.S_kinds (dVar 0))))) sNever sNext) (sFor (dEnum (dCons (dVar 1) dNil)) (gTupD 2 (gsCons (gSet 2) (gsCons (gSet 3) gsNil))) (sIf (dNot (dTst (dCall G.S_is_between [] (dCons (dVar 3) (dCons (dK1 (.int 1)) (dCons (dK1 (.int 1000000)) dNil)))))) sNever sNext)))
theorem w_need_weights {G : Gc P ⟨K, w⟩} (g : Fx P w K mg G) (k_is_between : Kn P w K mg base 2 "is_between" G.S_is_between []) (k_is_list : Kn P w K mg base 1 "is_list" G.S_is_list []) (p_kinds : KnP P w K mg base 1 G.C "kinds" G.S_kinds) (hr : Room 2 (A.deeper (envOfC "need_weights" (defScope s_need_weights) s.heap.objs.size f cdv))) :
    ∃ t, DSs (cxOf CX0 P w K mg base N_need_weights "need_weights" (defScope s_need_weights) f cdv A outer s H E).nox (defBody s_need_weights) t (d_need_weights G) := by
  unfold d_need_weights
  exact ⟨_, (ds_cons (ds_if (DW.dt (dw_or (dt_not (dt_val (de_callF k_is_list rfl rfl rfl rfl rfl hr (by decide) rfl (da_cons (de_v 1) da_nil)))) (dw_or1 (dt_cmp op_ne lr_ne (dc_of (de_cb (r := Dc.rLen K) cr_len lc_len rfl g.b_len rfl (db_cons (dc_v 1) db_nil))) (dc_of (de_propF p_kinds rfl rfl rfl rfl rfl hr (by decide) (de_v 0))))))) dss_never ds_nil) (ds_one (ds_for PassesOwn.never rfl (di_enum rfl g.b_enumerate (da_cons (de_v 1) da_nil)) (dg_tupF (K := K) rfl rfl (dgs_cons (dg_name 2 sc_need_weights.nd) (dgs_cons (dg_name 3 sc_need_weights.nd) dgs_nil))) (ds_one (ds_if (dt_not (dt_val (de_callF k_is_between rfl rfl rfl rfl rfl hr (by decide) rfl (da_cons (de_v 3) (da_cons de_int (da_cons (de_gint rfl g.c_MOST_PRICE) da_nil)))))) dss_never ds_nil)))))⟩
abbrev s_divisor : Stmt := top 62
def N_divisor : List Str := ["one", "other"]
theorem sc_divisor : FnScope N_divisor ["one", "other"] (defScope s_divisor) := ⟨rfl, rfl, rfl, by decide +kernel, rfl, by decide +kernel, by decide +kernel⟩
def d_divisor {P : Program} {KV : KW} (G : Gc P KV) : DTS := (sSeq (sWhile (dTst (dOp rdNe (dLook 1) (dK1 (.int 0)))) (sPar 0 1 (vSh (dVar 1)) (vSh (dOp rdMod (dLook 0) (dLook 1))))) (sRet (dVar 0)))
theorem w_divisor {G : Gc P ⟨K, w⟩} (g : Fx P w K mg G)  (hr : Room 0 (A.deeper (envOfC "divisor" (defScope s_divisor) s.heap.objs.size f cdv))) :
    ∃ t, DSs (cxOf CX0 P w K mg base N_divisor "divisor" (defScope s_divisor) f cdv A outer s H E).nox (defBody s_divisor) t (d_divisor G) := by
  unfold d_divisor
  exact ⟨_, (ds_cons (ds_while PassesOwn.never (dt_cmp op_ne lr_ne (dc_v 1) (dc_of de_int)) (ds_one (ds_par 0 1 rfl sc_divisor.nd (dv_of (de_v 1)) (dv_of (de_mod (dc_v 0) (dc_v 1)))))) (ds_one (ds_ret (de_v 0))))⟩
abbrev s_power : Stmt := top 63
def N_power : List Str := ["base", "times", "found", "lap"]
theorem sc_power : FnScope N_power ["base", "times"] (defScope s_power) := ⟨rfl, rfl, rfl, by decide +kernel, rfl, by decide +kernel, by decide +kernel⟩
def d_power {P : Program} {KV : KW} (G : Gc P KV) : DTS := (sSeq (sSet 2 (vSh (dK1 (.int 1)))) (sSeq (sFor (dRng1 (bCons (dLook 1) bNil)) (gSet 3) (sSet 2 (vSh (dOp (rdI CMulW fun i j => .int (i * j)) (dLook 2) (dLook 0))))) (sRet (dVar 2))))
theorem w_power {G : Gc P ⟨K, w⟩} (g : Fx P w K mg G)  (hr : Room 0 (A.deeper (envOfC "power" (defScope s_power) s.heap.objs.size f cdv))) :
    ∃ t, DSs (cxOf CX0 P w K mg base N_power "power" (defScope s_power) f cdv A outer s H E).nox (defBody s_power) t (d_power G) := by
  unfold d_power
  exact ⟨_, (ds_cons (ds_set 2 sc_power.nd (dv_of de_int)) (ds_cons (ds_for PassesOwn.never rfl (di_rng1 rfl g.b_range (db_cons (dc_v 1) db_nil)) (dg_name 3 sc_power.nd) (ds_one (ds_set 2 sc_power.nd (dv_of (de_mulW (dc_v 2) (dc_v 0)))))) (ds_one (ds_ret (de_v 2)))))⟩
abbrev s_fraction_of : Stmt := top 64
def N_fraction_of : List Str := ["top", "bottom", "common"]
theorem sc_fraction_of : FnScope N_fraction_of ["top", "bottom"] (defScope s_fraction_of) := ⟨rfl, rfl, rfl, by decide +kernel, rfl, by decide +kernel, by decide +kernel⟩
def d_fraction_of {P : Program} {KV : KW} (G : Gc P KV) : DTS := (sSeq (sSet 2 (vSh (dCall G.S_divisor [] (dCons (dVar 0) (dCons (dVar 1) dNil))))) (sRet (dTup (dCons (dOp (rdI CDivW fun i j => .int (i / j)) (dLook 0) (dLook 2)) (dCons (dOp (rdI CDivW fun i j => .int (i / j)) (dLook 1) (dLook 2)) dNil)))))
theorem w_fraction_of {G : Gc P ⟨K, w⟩} (g : Fx P w K mg G) (k_divisor : Kn P w K mg base 1 "divisor" G.S_divisor []) (hr : Room 1 (A.deeper (envOfC "fraction_of" (defScope s_fraction_of) s.heap.objs.size f cdv))) :
    ∃ t, DSs (cxOf CX0 P w K mg base N_fraction_of "fraction_of" (defScope s_fraction_of) f cdv A outer s H E).nox (defBody s_fraction_of) t (d_fraction_of G) := by
  unfold d_fraction_of
  exact ⟨_, (ds_cons (ds_set 2 sc_fraction_of.nd (dv_of (de_callF k_divisor rfl rfl rfl rfl rfl hr (by decide) rfl (da_cons (de_v 0) (da_cons (de_v 1) da_nil))))) (ds_one (ds_ret (de_tup (da_cons (de_divW (dc_v 0) (dc_v 2)) (da_cons (de_divW (dc_v 1) (dc_v 2)) da_nil))))))⟩
abbrev s_heavier_by : Stmt := top 65
def N_heavier_by : List Str := ["watch", "found", "item", "weights", "behind", "place", "many", "kind", "goal"]
theorem sc_heavier_by : FnScope N_heavier_by ["watch", "found", "item", "weights"] (defScope s_heavier_by) := ⟨rfl, rfl, rfl, by decide +kernel, rfl, by decide +kernel, by decide +kernel⟩
def d_heavier_by {P : Program} {KV : KW} (G : Gc P KV) : DTS := (sSeq (sSet 4 (vOw (dK1 (.dk [] [])))) (sSeq (sFor (dDk (dVar 1) itemsD) (gTupD 2 (gsCons (gSet 5) (gsCons (gSet 6) gsNil))) (sFor (dIlst (dIf (dTst (dMapB isNonD (dLook 2))) (dLR (dProp G.C G.S_kinds (dVar 0))) (dLst (dCons (dVar 2) dNil)))) (gSet 7) (sSeq (sSet 8 (vSh (dOp rdIx (dOp rdIx (dProp G.C G.S_moves (dVar 0)) (dLook 5)) (dLook 7)))) (sPut 4 sdD (dOp rdAdd (dGet2 (dLook 4) (dVar 8) (dK1 (.int 0))) (dOp (rdI CMulW fun i j => .int (i * j)) (dLook 6) (dIf (dTst (dMapB isNonD (dLook 2))) (dOp rdIx (dLook 3) (dLook 7)) (dK1 (.int 1))))) (dVar 8))))) (sRet (dVar 4))))
theorem w_heavier_by {G : Gc P ⟨K, w⟩} (g : Fx P w K mg G) (p_kinds : KnP P w K mg base 1 G.C "kinds" G.S_kinds) (p_moves : KnP P w K mg base 1 G.C "moves" G.S_moves) (hr : Room 2 (A.deeper (envOfC "heavier_by" (defScope s_heavier_by) s.heap.objs.size f cdv))) :
    ∃ t, DSs (cxOf CX0 P w K mg base N_heavier_by "heavier_by" (defScope s_heavier_by) f cdv A outer s H E).nox (defBody s_heavier_by) t (d_heavier_by G) := by
  unfold d_heavier_by
  exact ⟨_, (ds_cons (ds_set 4 sc_heavier_by.nd dv_dK) (ds_cons (ds_forJ PassesOwn.never rfl (dj_items (de_v 1)) (dg_tupF (K := K) rfl rfl (dgs_cons (dg_name 5 sc_heavier_by.nd) (dgs_cons (dg_name 6 sc_heavier_by.nd) dgs_nil))) (ds_one (ds_for PassesOwn.never rfl (di_lst (de_if (dt_isN (dc_v 2)) (de_ow (dv_listRg rfl rfl g.b_list rfl g.b_range (dc_of (de_propF p_kinds rfl rfl rfl rfl rfl hr (by decide) (de_v 0))))) (de_lst (da_cons (de_v 2) da_nil)))) (dg_name 7 sc_heavier_by.nd) (ds_cons (ds_set 8 sc_heavier_by.nd (dv_of (de_ix (r := rIx K) ix_seq lr_ix (dc_of (de_ix (r := rIx K) ix_seq lr_ix (dc_of (de_propF p_moves rfl rfl rfl rfl rfl hr (by decide) (de_v 0))) (dc_v 5))) (dc_v 7)))) (ds_one (ds_put 4 (set_dict (hu1 hr)) ls_dict (de_add (dc_of (de_get2 (hu1 hr) (dc_v 4) (de_v 8) de_int)) (dc_of (de_mulW (dc_v 6) (dc_of (de_if (dt_isN (dc_v 2)) (de_ix (r := rIx K) ix_seq lr_ix (dc_v 3) (dc_v 7)) de_int))))) (de_v 8))))))) (ds_one (ds_ret (de_v 4)))))⟩
abbrev s_numbers_by : Stmt := top 66
def N_numbers_by : List Str := ["watch", "shown", "weights", "found", "item"]
theorem sc_numbers_by : FnScope N_numbers_by ["watch", "shown", "weights"] (defScope s_numbers_by) := ⟨rfl, rfl, rfl, by decide +kernel, rfl, by decide +kernel, by decide +kernel⟩
def d_numbers_by {P : Program} {KV : KW} (G : Gc P KV) : DTS := (sSeq (sSet 3 (vOw (dDisp1 (dK1 (.int 0)) (dK1 (.int 1))))) (sSeq (sFor (dIlst (dVar 1)) (gSet 4) (sSet 3 (vSh (dCall G.S_heavier_by [] (dCons (dVar 0) (dCons (dVar 3) (dCons (dVar 4) (dCons (dVar 2) dNil)))))))) (sRet (dTup (dCons (dVar 3) (dCons (dCall G.S_power [] (dCons (dCB rdSum (bCons (dLook 2) bNil)) (dCons (dCB rdLen (bCons (dLc (dIlst (dVar 1)) (gSet 4) (dTst (dMapB isNonD (dLook 4))) (dVar 4) [4]) bNil)) dNil))) dNil))))))
theorem w_numbers_by {G : Gc P ⟨K, w⟩} (g : Fx P w K mg G) (k_heavier_by : Kn P w K mg base 3 "heavier_by" G.S_heavier_by []) (k_power : Kn P w K mg base 1 "power" G.S_power []) (hr : Room 3 (A.deeper (envOfC "numbers_by" (defScope s_numbers_by) s.heap.objs.size f cdv))) :
    ∃ t, DSs (cxOf CX0 P w K mg base N_numbers_by "numbers_by" (defScope s_numbers_by) f cdv A outer s H E).nox (defBody s_numbers_by) t (d_numbers_by G) := by
  unfold d_numbers_by
  exact ⟨_, (ds_cons (ds_set 3 sc_numbers_by.nd (dv_d1 de_int de_int)) (ds_cons (ds_for PassesOwn.never rfl (di_lst (de_v 1)) (dg_name 4 sc_numbers_by.nd) (ds_one (ds_set 3 sc_numbers_by.nd (dv_of (de_callF k_heavier_by rfl rfl rfl rfl rfl hr (by decide) rfl (da_cons (de_v 0) (da_cons (de_v 3) (da_cons (de_v 4) (da_cons (de_v 2) da_nil))))))))) (ds_one (ds_ret (de_tup (da_cons (de_v 3) (da_cons (de_callF k_power rfl rfl rfl rfl rfl hr (by decide) rfl (da_cons (de_cb (r := rSum K) (cr_sum rfl) lc_sum rfl g.b_sum rfl (db_cons (dc_v 2) db_nil)) (da_cons (de_cb (r := Dc.rLen K) cr_len lc_len rfl g.b_len rfl (db_cons (dc_of (de_ow (dv_lc (own := [("item", 4)]) rfl sc_numbers_by.nd (di_lst (de_v 1)) (blkOk_by (own := [("item", 4)]) (by kernel_rfl)) (fun _ _ _ _ _ => (dg_name 4 sc_numbers_by.nd)) (fun _ _ _ _ _ => (dts_one (dt_isN (dc_v 4)))) (fun _ _ _ _ _ => (de_v 4)) (by decide)))) db_nil)) da_nil))) da_nil)))))))⟩
abbrev s_words_by : Stmt := top 67
def N_words_by : List Str := ["watch", "shown", "weights", "found", "whole", "words", "place", "many", "word"]
theorem sc_words_by : FnScope N_words_by ["watch", "shown", "weights"] (defScope s_words_by) := ⟨rfl, rfl, rfl, by decide +kernel, rfl, by decide +kernel, by decide +kernel⟩
def d_words_by {P : Program} {KV : KW} (G : Gc P KV) : DTS := (sSeq (sAsg (dCall G.S_numbers_by [] (dCons (dVar 0) (dCons (dVar 1) (dCons (dVar 2) dNil)))) (gTupD 2 (gsCons (gSet 3) (gsCons (gSet 4) gsNil)))) (sSeq (sSet 5 (vOw (dK1 (.dk [] [])))) (sSeq (sFor (dDk (dVar 3) itemsD) (gTupD 2 (gsCons (gSet 6) (gsCons (gSet 7) gsNil))) (sPut 5 sdD (dOp rdAdd (dGet2 (dLook 5) (dOp rdIx (dProp G.C G.S_words (dVar 0)) (dLook 6)) (dK1 (.int 0))) (dLook 7)) (dOp rdIx (dProp G.C G.S_words (dVar 0)) (dLook 6)))) (sRet (dTup (dCons (dDc (dIlst (dCB rdSrtD (bCons (dLook 5) bNil))) (gSet 8) dYes (dVar 8) (dOp rdDK (dLook 5) (dLook 8)) [8]) (dCons (dVar 4) dNil)))))))
theorem w_words_by {G : Gc P ⟨K, w⟩} (g : Fx P w K mg G) (k_numbers_by : Kn P w K mg base 4 "numbers_by" G.S_numbers_by []) (p_words : KnP P w K mg base 1 G.C "words" G.S_words) (hr : Room 4 (A.deeper (envOfC "words_by" (defScope s_words_by) s.heap.objs.size f cdv))) :
    ∃ t, DSs (cxOf CX0 P w K mg base N_words_by "words_by" (defScope s_words_by) f cdv A outer s H E).nox (defBody s_words_by) t (d_words_by G) := by
  unfold d_words_by
  exact ⟨_, (ds_cons (ds_asg (de_callF k_numbers_by rfl rfl rfl rfl rfl hr (by decide) rfl (da_cons (de_v 0) (da_cons (de_v 1) (da_cons (de_v 2) da_nil)))) (dg_tupF (K := K) rfl rfl (dgs_cons (dg_name 3 sc_words_by.nd) (dgs_cons (dg_name 4 sc_words_by.nd) dgs_nil)))) (ds_cons (ds_set 5 sc_words_by.nd dv_dK) (ds_cons (ds_forJ PassesOwn.never rfl (dj_items (de_v 3)) (dg_tupF (K := K) rfl rfl (dgs_cons (dg_name 6 sc_words_by.nd) (dgs_cons (dg_name 7 sc_words_by.nd) dgs_nil))) (ds_one (ds_put 5 (set_dict (hu1 hr)) ls_dict (de_add (dc_of (de_get2 (hu1 hr) (dc_v 5) (de_ix (r := rIx K) ix_seq lr_ix (dc_of (de_propF p_words rfl rfl rfl rfl rfl hr (by decide) (de_v 0))) (dc_v 6)) de_int)) (dc_v 7)) (de_ix (r := rIx K) ix_seq lr_ix (dc_of (de_propF p_words rfl rfl rfl rfl rfl hr (by decide) (de_v 0))) (dc_v 6))))) (ds_one (ds_ret (de_tup (da_cons (de_ow (dv_dc (own := [("word", 8)]) rfl sc_words_by.nd (DI.dj (di_lst (de_cb (r := Dc.rSrtD w K) (cr_srtD (hu64 hr) rfl) lc_srtD rfl g.b_sorted rfl (db_cons (dc_v 5) db_nil)))) (blkOk_by (own := [("word", 8)]) (by kernel_rfl)) (fun _ _ _ _ _ => (dg_name 8 sc_words_by.nd)) (fun _ _ _ _ _ => dts_nil) (fun _ _ _ _ _ => (de_v 8)) (fun _ _ _ _ _ => (de_ix (dict_item (hu1 hr)) lr_dk (dc_v 5) (dc_v 8))) (by decide))) (da_cons (de_v 4) da_nil))))))))⟩
abbrev s_odds_by : Stmt := top 68
def N_odds_by : List Str := ["watch", "shown", "weights", "words", "whole", "word", "many"]
theorem sc_odds_by : FnScope N_odds_by ["watch", "shown", "weights"] (defScope s_odds_by) := ⟨rfl, rfl, rfl, by decide +kernel, rfl, by decide +kernel, by decide +kernel⟩
def d_odds_by {P : Program} {KV : KW} (G : Gc P KV) : DTS := (sSeq (sAsg (dCall G.S_words_by [] (dCons (dVar 0) (dCons (dVar 1) (dCons (dVar 2) dNil)))) (gTupD 2 (gsCons (gSet 3) (gsCons (gSet 4) gsNil)))) (sRet (dDc (dDk (dVar 3) itemsD) (gTupD 2 (gsCons (gSet 5) (gsCons (gSet 6) gsNil))) dYes (dVar 5) (dCall G.S_fraction_of [] (dCons (dVar 6) (dCons (dVar 4) dNil))) [5, 6])))
theorem w_odds_by {G : Gc P ⟨K, w⟩} (g : Fx P w K mg G) (k_fraction_of : Kn P w K mg base 2 "fraction_of" G.S_fraction_of []) (k_words_by : Kn P w K mg base 5 "words_by" G.S_words_by []) (hr : Room 5 (A.deeper (envOfC "odds_by" (defScope s_odds_by) s.heap.objs.size f cdv))) :
    ∃ t, DSs (cxOf CX0 P w K mg base N_odds_by "odds_by" (defScope s_odds_by) f cdv A outer s H E).nox (defBody s_odds_by) t (d_odds_by G) := by
  unfold d_odds_by
  exact ⟨_, (ds_cons (ds_asg (de_callF k_words_by rfl rfl rfl rfl rfl hr (by decide) rfl (da_cons (de_v 0) (da_cons (de_v 1) (da_cons (de_v 2) da_nil)))) (dg_tupF (K := K) rfl rfl (dgs_cons (dg_name 3 sc_odds_by.nd) (dgs_cons (dg_name 4 sc_odds_by.nd) dgs_nil)))) (ds_one (ds_ret (de_ow (dv_dc (own := [("word", 5), ("many", 6)]) rfl sc_odds_by.nd (dj_items (de_v 3)) (blkOk_by (own := [("word", 5), ("many", 6)]) (by kernel_rfl)) (fun _ _ _ _ _ => (dg_tupF (K := K) rfl rfl (dgs_cons (dg_name 5 sc_odds_by.nd) (dgs_cons (dg_name 6 sc_odds_by.nd) dgs_nil)))) (fun _ _ _ _ _ => dts_nil) (fun _ _ _ _ _ => (de_v 5)) (fun _ _ _ _ _ => (de_callF k_fraction_of rfl rfl rfl rfl rfl hr (by decide) rfl (da_cons (de_v 6) (da_cons (de_v 4) da_nil)))) (by decide))))))⟩
abbrev s_need_odds : Stmt := top 69
def N_need_odds : List Str := ["watch", "shown", "weights"]
theorem sc_need_odds : FnScope N_need_odds ["watch", "shown", "weights"] (defScope s_need_odds) := ⟨rfl, rfl, rfl, by decide +kernel, rfl, by decide +kernel, by decide +kernel⟩
def d_need_odds {P : Program} {KV : KW} (G : Gc P KV) : DTS := (sSeq (sExpr (dCall G.S_need_watch [.non] (dCons (dVar 0) dNil))) (sSeq (sExpr (dCall G.S_need_shown [] (dCons (dVar 0) (dCons (dVar 1) dNil)))) (sExpr (dCall G.S_need_weights [] (dCons (dVar 0) (dCons (dVar 2) dNil))))))
theorem w_need_odds {G : Gc P ⟨K, w⟩} (g : Fx P w K mg G) (k_need_shown : Kn P w K mg base 3 "need_shown" G.S_need_shown []) (k_need_watch_1 : Kn P w K mg base 1 "need_watch" G.S_need_watch [.non]) (k_need_weights : Kn P w K mg base 3 "need_weights" G.S_need_weights []) (hr : Room 3 (A.deeper (envOfC "need_odds" (defScope s_need_odds) s.heap.objs.size f cdv))) :
    ∃ t, DSs (cxOf CX0 P w K mg base N_need_odds "need_odds" (defScope s_need_odds) f cdv A outer s H E).nox (defBody s_need_odds) t (d_need_odds G) := by
  unfold d_need_odds
  exact ⟨_, (ds_cons (ds_expr (de_callF k_need_watch_1 rfl rfl rfl rfl rfl hr (by decide) rfl (da_cons (de_v 0) da_nil))) (ds_cons (ds_expr (de_callF k_need_shown rfl rfl rfl rfl rfl hr (by decide) rfl (da_cons (de_v 0) (da_cons (de_v 1) da_nil)))) (ds_one (ds_expr (de_callF k_need_weights rfl rfl rfl rfl rfl hr (by decide) rfl (da_cons (de_v 0) (da_cons (de_v 2) da_nil)))))))⟩
abbrev s_odds : Stmt := top 70
def N_odds : List Str := ["watch", "shown", "weights"]
theorem sc_odds : FnScope N_odds ["watch", "shown", "weights"] (defScope s_odds) := ⟨rfl, rfl, rfl, by decide +kernel, rfl, by decide +kernel, by decide +kernel⟩
def d_odds {P : Program} {KV : KW} (G : Gc P KV) : DTS := (sSeq (sExpr (dCall G.S_need_odds [] (dCons (dVar 0) (dCons (dVar 1) (dCons (dVar 2) dNil))))) (sRet (dCall G.S_odds_by [] (dCons (dVar 0) (dCons (dVar 1) (dCons (dVar 2) dNil))))))
theorem w_odds {G : Gc P ⟨K, w⟩} (g : Fx P w K mg G) (k_need_odds : Kn P w K mg base 4 "need_odds" G.S_need_odds []) (k_odds_by : Kn P w K mg base 6 "odds_by" G.S_odds_by []) (hr : Room 6 (A.deeper (envOfC "odds" (defScope s_odds) s.heap.objs.size f cdv))) :
    ∃ t, DSs (cxOf CX0 P w K mg base N_odds "odds" (defScope s_odds) f cdv A outer s H E).nox (defBody s_odds) t (d_odds G) := by
  unfold d_odds
  exact ⟨_, (ds_cons (ds_expr (de_callF k_need_odds rfl rfl rfl rfl rfl hr (by decide) rfl (da_cons (de_v 0) (da_cons (de_v 1) (da_cons (de_v 2) da_nil))))) (ds_one (ds_ret (de_callF k_odds_by rfl rfl rfl rfl rfl hr (by decide) rfl (da_cons (de_v 0) (da_cons (de_v 1) (da_cons (de_v 2) da_nil)))))))⟩
abbrev s_greatest_of : Stmt := top 72
def N_greatest_of : List Str := ["words", "many", "word"]
theorem sc_greatest_of : FnScope N_greatest_of ["words"] (defScope s_greatest_of) := ⟨rfl, rfl, rfl, by decide +kernel, rfl, by decide +kernel, by decide +kernel⟩
def d_greatest_of {P : Program} {KV : KW} (G : Gc P KV) : DTS := (sSeq (sSet 1 (vSh (dMaxV (dLook 0)))) (sRet (dTup (dCons (dOp rdIx (dLc (dDk (dVar 0) fun ks _ => ks.map keyD) (gSet 2) (dTst (dOp rdEq (dOp rdDK (dLook 0) (dLook 2)) (dLook 1))) (dVar 2) [2]) (dK1 (.int 0))) (dCons (dVar 1) dNil)))))
theorem w_greatest_of {G : Gc P ⟨K, w⟩} (g : Fx P w K mg G)  (hr : Room 0 (A.deeper (envOfC "greatest_of" (defScope s_greatest_of) s.heap.objs.size f cdv))) :
    ∃ t, DSs (cxOf CX0 P w K mg base N_greatest_of "greatest_of" (defScope s_greatest_of) f cdv A outer s H E).nox (defBody s_greatest_of) t (d_greatest_of G) := by
  unfold d_greatest_of
  exact ⟨_, (ds_cons (ds_set 1 sc_greatest_of.nd (dv_of (de_maxVals rfl rfl g.b_max (dc_v 0)))) (ds_one (ds_ret (de_tup (da_cons (de_ix (r := rIx K) ix_seq lr_ix (dc_of (de_ow (dv_lcJ (own := [("word", 2)]) rfl sc_greatest_of.nd (dj_keys (de_v 0)) (blkOk_by (own := [("word", 2)]) (by kernel_rfl)) (fun _ _ _ _ _ => (dg_name 2 sc_greatest_of.nd)) (fun _ _ _ _ _ => (dts_one (dt_cmp op_eq lr_eq (dc_of (de_ix (dict_item (hu1 hr)) lr_dk (dc_v 0) (dc_v 2))) (dc_v 1)))) (fun _ _ _ _ _ => (de_v 2)) (by decide)))) (dc_of de_int)) (da_cons (de_v 1) da_nil))))))⟩
abbrev s_with_item : Stmt := top 73
def N_with_item : List Str := ["shown", "place", "kind", "spot", "item"]
theorem sc_with_item : FnScope N_with_item ["shown", "place", "kind"] (defScope s_with_item) := ⟨rfl, rfl, rfl, by decide +kernel, rfl, by decide +kernel, by decide +kernel⟩
def d_with_item {P : Program} {KV : KW} (G : Gc P KV) : DTS := (sRet (dLc (dEnum (dCons (dVar 0) dNil)) (gTupD 2 (gsCons (gSet 3) (gsCons (gSet 4) gsNil))) dYes (dIf (dTst (dOp rdEq (dLook 3) (dLook 1))) (dVar 2) (dVar 4)) [3, 4]))
theorem w_with_item {G : Gc P ⟨K, w⟩} (g : Fx P w K mg G)  (hr : Room 0 (A.deeper (envOfC "with_item" (defScope s_with_item) s.heap.objs.size f cdv))) :
    ∃ t, DSs (cxOf CX0 P w K mg base N_with_item "with_item" (defScope s_with_item) f cdv A outer s H E).nox (defBody s_with_item) t (d_with_item G) := by
  unfold d_with_item
  exact ⟨_, (ds_one (ds_ret (de_ow (dv_lc (own := [("spot", 3), ("item", 4)]) rfl sc_with_item.nd (di_enum rfl g.b_enumerate (da_cons (de_v 0) da_nil)) (blkOk_by (own := [("spot", 3), ("item", 4)]) (by kernel_rfl)) (fun _ _ _ _ _ => (dg_tupF (K := K) rfl rfl (dgs_cons (dg_name 3 sc_with_item.nd) (dgs_cons (dg_name 4 sc_with_item.nd) dgs_nil)))) (fun _ _ _ _ _ => dts_nil) (fun _ _ _ _ _ => (de_if (dt_cmp op_eq lr_eq (dc_v 3) (dc_v 1)) (de_v 2) (de_v 4))) (by decide)))))⟩
abbrev s_guessed_by : Stmt := top 74
def N_guessed_by : List Str := ["watch", "shown", "weights", "place", "top", "whole", "kind", "weight", "words"]
theorem sc_guessed_by : FnScope N_guessed_by ["watch", "shown", "weights", "place"] (defScope s_guessed_by) := ⟨rfl, rfl, rfl, by decide +kernel, rfl, by decide +kernel, by decide +kernel⟩
def d_guessed_by {P : Program} {KV : KW} (G : Gc P KV) : DTS := (sSeq (sAsg (dTup (dCons (dK1 (.int 0)) (dCons (dK1 (.int 1)) dNil))) (gTupD 2 (gsCons (gSet 4) (gsCons (gSet 5) gsNil)))) (sSeq (sFor (dEnum (dCons (dVar 2) dNil)) (gTupD 2 (gsCons (gSet 6) (gsCons (gSet 7) gsNil))) (sSeq (sAsg (dCall G.S_words_by [] (dCons (dVar 0) (dCons (dCall G.S_with_item [] (dCons (dVar 1) (dCons (dVar 3) (dCons (dVar 6) dNil)))) (dCons (dVar 2) dNil)))) (gTupD 2 (gsCons (gSet 8) (gsCons (gSet 5) gsNil)))) (sAugI 4 (fun _ _ => True) (fun i j => i + j) (dOp (rdI CMulW fun i j => .int (i * j)) (dLook 7) (dOp rdIx (dCall G.S_greatest_of [] (dCons (dVar 8) dNil)) (dK1 (.int 1))))))) (sRet (dCall G.S_fraction_of [] (dCons (dVar 4) (dCons (dOp (rdI CMulW fun i j => .int (i * j)) (dLook 5) (dCB rdSum (bCons (dLook 2) bNil))) dNil))))))
theorem w_guessed_by {G : Gc P ⟨K, w⟩} (g : Fx P w K mg G) (k_fraction_of : Kn P w K mg base 2 "fraction_of" G.S_fraction_of []) (k_greatest_of : Kn P w K mg base 1 "greatest_of" G.S_greatest_of []) (k_with_item : Kn P w K mg base 1 "with_item" G.S_with_item []) (k_words_by : Kn P w K mg base 5 "words_by" G.S_words_by []) (hr : Room 5 (A.deeper (envOfC "guessed_by" (defScope s_guessed_by) s.heap.objs.size f cdv))) :
    ∃ t, DSs (cxOf CX0 P w K mg base N_guessed_by "guessed_by" (defScope s_guessed_by) f cdv A outer s H E).nox (defBody s_guessed_by) t (d_guessed_by G) := by
  unfold d_guessed_by
  exact ⟨_, (ds_cons (ds_asg (de_tup (da_cons de_int (da_cons de_int da_nil))) (dg_tupF (K := K) rfl rfl (dgs_cons (dg_name 4 sc_guessed_by.nd) (dgs_cons (dg_name 5 sc_guessed_by.nd) dgs_nil)))) (ds_cons (ds_for PassesOwn.never rfl (di_enum rfl g.b_enumerate (da_cons (de_v 2) da_nil)) (dg_tupF (K := K) rfl rfl (dgs_cons (dg_name 6 sc_guessed_by.nd) (dgs_cons (dg_name 7 sc_guessed_by.nd) dgs_nil))) (ds_cons (ds_asg (de_callF k_words_by rfl rfl rfl rfl rfl hr (by decide) rfl (da_cons (de_v 0) (da_cons (de_callF k_with_item rfl rfl rfl rfl rfl hr (by decide) rfl (da_cons (de_v 1) (da_cons (de_v 3) (da_cons (de_v 6) da_nil)))) (da_cons (de_v 2) da_nil)))) (dg_tupF (K := K) rfl rfl (dgs_cons (dg_name 8 sc_guessed_by.nd) (dgs_cons (dg_name 5 sc_guessed_by.nd) dgs_nil)))) (ds_one (ds_augI 4 sc_guessed_by.nd iop_addC (de_mulW (dc_v 7) (dc_of (de_ix (r := rIx K) ix_seq lr_ix (dc_of (de_callF k_greatest_of rfl rfl rfl rfl rfl hr (by decide) rfl (da_cons (de_v 8) da_nil))) (dc_of de_int)))))))) (ds_one (ds_ret (de_callF k_fraction_of rfl rfl rfl rfl rfl hr (by decide) rfl (da_cons (de_v 4) (da_cons (de_mulW (dc_v 5) (dc_of (de_cb (r := rSum K) (cr_sum rfl) lc_sum rfl g.b_sum rfl (db_cons (dc_v 2) db_nil)))) da_nil)))))))⟩
abbrev s_is_above : Stmt := top 75
def N_is_above : List Str := ["one", "other"]
theorem sc_is_above : FnScope N_is_above ["one", "other"] (defScope s_is_above) := ⟨rfl, rfl, rfl, by decide +kernel, rfl, by decide +kernel, by decide +kernel⟩
def d_is_above {P : Program} {KV : KW} (G : Gc P KV) : DTS := (sRet (dOp rdGt (dOp (rdI CMulW fun i j => .int (i * j)) (dOp rdIx (dLook 0) (dK1 (.int 0))) (dOp rdIx (dLook 1) (dK1 (.int 1)))) (dOp (rdI CMulW fun i j => .int (i * j)) (dOp rdIx (dLook 1) (dK1 (.int 0))) (dOp rdIx (dLook 0) (dK1 (.int 1))))))
theorem w_is_above {G : Gc P ⟨K, w⟩} (g : Fx P w K mg G)  (hr : Room 0 (A.deeper (envOfC "is_above" (defScope s_is_above) s.heap.objs.size f cdv))) :
    ∃ t, DSs (cxOf CX0 P w K mg base N_is_above "is_above" (defScope s_is_above) f cdv A outer s H E).nox (defBody s_is_above) t (d_is_above G) := by
  unfold d_is_above
  exact ⟨_, (ds_one (ds_ret (de_cmp op_gt lr_gt (dc_of (de_mulW (dc_of (de_ix (r := rIx K) ix_seq lr_ix (dc_v 0) (dc_of de_int))) (dc_of (de_ix (r := rIx K) ix_seq lr_ix (dc_v 1) (dc_of de_int))))) (dc_of (de_mulW (dc_of (de_ix (r := rIx K) ix_seq lr_ix (dc_v 1) (dc_of de_int))) (dc_of (de_ix (r := rIx K) ix_seq lr_ix (dc_v 0) (dc_of de_int))))))))⟩
abbrev s_most_telling : Stmt := top 76
def N_most_telling : List Str := ["watch", "shown", "weights", "found", "place", "item", "share"]
theorem sc_most_telling : FnScope N_most_telling ["watch", "shown", "weights"] (defScope s_most_telling) := ⟨rfl, rfl, rfl, by decide +kernel, rfl, by decide +kernel, by decide +kernel⟩
def d_most_telling {P : Program} {KV : KW} (G : Gc P KV) : DTS := (sSeq (sExpr (dCall G.S_need_odds [] (dCons (dVar 0) (dCons (dVar 1) (dCons (dVar 2) dNil))))) (sSeq (sSet 3 (vSh (dK1 .non))) (sSeq (sFor (dEnum (dCons (dVar 1) dNil)) (gTupD 2 (gsCons (gSet 4) (gsCons (gSet 5) gsNil))) (sIf (dTst (dMapB isNonD (dLook 5))) (sSeq (sSet 6 (vSh (dCall G.S_guessed_by [] (dCons (dVar 0) (dCons (dVar 1) (dCons (dVar 2) (dCons (dVar 4) dNil))))))) (sIf (dOr (dTst (dMapB isNonD (dLook 3))) (dTst (dCall G.S_is_above [] (dCons (dVar 6) (dCons (dOp rdIx (dLook 3) (dK1 (.int 1))) dNil))))) (sSet 3 (vSh (dTup (dCons (dVar 4) (dCons (dVar 6) dNil))))) sNext)) sNext)) (sRet (dVar 3)))))
theorem w_most_telling {G : Gc P ⟨K, w⟩} (g : Fx P w K mg G) (k_guessed_by : Kn P w K mg base 6 "guessed_by" G.S_guessed_by []) (k_is_above : Kn P w K mg base 1 "is_above" G.S_is_above []) (k_need_odds : Kn P w K mg base 4 "need_odds" G.S_need_odds []) (hr : Room 6 (A.deeper (envOfC "most_telling" (defScope s_most_telling) s.heap.objs.size f cdv))) :
    ∃ t, DSs (cxOf CX0 P w K mg base N_most_telling "most_telling" (defScope s_most_telling) f cdv A outer s H E).nox (defBody s_most_telling) t (d_most_telling G) := by
  unfold d_most_telling
  exact ⟨_, (ds_cons (ds_expr (de_callF k_need_odds rfl rfl rfl rfl rfl hr (by decide) rfl (da_cons (de_v 0) (da_cons (de_v 1) (da_cons (de_v 2) da_nil))))) (ds_cons (ds_set 3 sc_most_telling.nd (dv_of de_non)) (ds_cons (ds_for PassesOwn.never rfl (di_enum rfl g.b_enumerate (da_cons (de_v 1) da_nil)) (dg_tupF (K := K) rfl rfl (dgs_cons (dg_name 4 sc_most_telling.nd) (dgs_cons (dg_name 5 sc_most_telling.nd) dgs_nil))) (ds_one (ds_if (dt_isN (dc_v 5)) (ds_cons (ds_set 6 sc_most_telling.nd (dv_of (de_callF k_guessed_by rfl rfl rfl rfl rfl hr (by decide) rfl (da_cons (de_v 0) (da_cons (de_v 1) (da_cons (de_v 2) (da_cons (de_v 4) da_nil))))))) (ds_one (ds_if (DW.dt (dw_or (dt_isN (dc_v 3)) (dw_or1 (dt_val (de_callF k_is_above rfl rfl rfl rfl rfl hr (by decide) rfl (da_cons (de_v 6) (da_cons (de_ix (r := rIx K) ix_seq lr_ix (dc_v 3) (dc_of de_int)) da_nil))))))) (ds_one (ds_set 3 sc_most_telling.nd (dv_of (de_tup (da_cons (de_v 4) (da_cons (de_v 6) da_nil)))))) ds_nil))) ds_nil))) (ds_one (ds_ret (de_v 3))))))⟩
abbrev s__law_begun : Stmt := top 78
def N__law_begun : List Str := ["script", "large", "grain"]
theorem sc__law_begun : FnScope N__law_begun ["script"] (defScope s__law_begun) := ⟨rfl, rfl, rfl, by decide +kernel, rfl, by decide +kernel, by decide +kernel⟩
def d__law_begun {P : Program} {KV : KW} (G : Gc P KV) : DTS := (sSeq (sSet 1 (vOw (dLc (dIlst (dVar 0)) (gSet 2) (dTst (dOp rdGe (dCB rdAbs (bCons (dLook 2) bNil)) (dOp rdPow (dK1 (.int 10)) (dK1 (.int 18))))) (dOp rdSub (dCB rdAbs (bCons (dLook 2) bNil)) (dOp rdPow (dK1 (.int 10)) (dK1 (.int 18)))) [2]))) (sRet (dBegun0 P KV 1 (dLc (dIlst (dVar 0)) (gSet 2) dYes (dCB rdAbs (bCons (dLook 2) bNil)) [2]))))
theorem w__law_begun {G : Gc P ⟨K, w⟩} (g : Fx P w K mg G)  (hr : Room 0 (A.deeper (envOfC "_law_begun" (defScope s__law_begun) s.heap.objs.size f cdv))) :
    ∃ t, DSs (cxOf CX0 P w K mg base N__law_begun "_law_begun" (defScope s__law_begun) f cdv A outer s H E).nox (defBody s__law_begun) t (d__law_begun G) := by
  unfold d__law_begun
  exact ⟨_, (ds_cons (ds_setLc 1 (own := [("grain", 2)]) rfl sc__law_begun.nd (di_lst (de_v 0)) (blkOk_by (own := [("grain", 2)]) (by kernel_rfl)) (fun _ _ _ _ _ => (dg_name 2 sc__law_begun.nd)) (fun _ _ _ _ _ => (dts_one (dt_cmp op_ge lr_ge (dc_of (de_cb call_abs lc_abs rfl g.b_abs rfl (db_cons (dc_v 2) db_nil))) (dc_of (de_pow (dc_of de_int) (dc_of de_int)))))) (fun _ _ _ _ _ => (de_sub (dc_of (de_cb call_abs lc_abs rfl g.b_abs rfl (db_cons (dc_v 2) db_nil))) (dc_of (de_pow (dc_of de_int) (dc_of de_int))))) (by decide)) (ds_one (ds_ret (de_begun 1 (pe_var (i := 1) rfl (Or.inl rfl)) (de_ow (dv_lc (own := [("grain", 2)]) rfl sc__law_begun.nd (di_lst (de_v 0)) (blkOk_by (own := [("grain", 2)]) (by kernel_rfl)) (fun _ _ _ _ _ => (dg_name 2 sc__law_begun.nd)) (fun _ _ _ _ _ => dts_nil) (fun _ _ _ _ _ => (de_cb call_abs lc_abs rfl g.b_abs rfl (db_cons (dc_v 2) db_nil))) (by decide)))))))⟩
abbrev s__law_blend : Stmt := top 79
def N__law_blend : List Str := ["tape", "turn", "found", "great", "blended", "grain"]
theorem sc__law_blend : FnScope N__law_blend ["tape"] (defScope s__law_blend) := ⟨rfl, rfl, rfl, by decide +kernel, rfl, by decide +kernel, by decide +kernel⟩
def d__law_blend {P : Program} {KV : KW} (G : Gc P KV) : DTS := (sSeq (sPutM 0 sdD (dOp rdAdd (dOp rdDK (dLook 0) (dK1 (.str "turn"))) (dK1 (.int 1))) (dK1 (.str "turn"))) (sSeq (sPar 1 2 (vSh (dCB rdInt (bCons (dOp rdDK (dLook 0) (dK1 (.str "turn"))) bNil))) (vSh (dK1 (.int 0)))) (sSeq (sFor (dIlst (dLst (dCons (dK1 (.int 2147483629)) (dCons (dK1 (.int 2147483587)) (dCons (dK1 (.int 2147483579)) dNil))))) (gSet 3) (sSeq (sSet 4 (vSh (dOp rdMod (dOp rdAdd (dOp rdMul (dLook 1) (dK1 (.int 69621))) (dOp (rdI CDivW fun i j => .int (i / j)) (dLook 3) (dK1 (.int 7)))) (dLook 3)))) (sSeq (sFor (dCells KV.K (dOp rdDK (dLook 0) (dK1 (.str "cells")))) (gSet 5) (sSet 4 (vSh (dOp rdMod (dOp rdAdd (dOp rdMul (dLook 4) (dK1 (.int 48271))) (dCB rdInt (bCons (dLook 5) bNil))) (dLook 3))))) (sSet 2 (vSh (dOp rdAdd (dOp rdMul (dLook 2) (dK1 (.int 2147483647))) (dOp rdMod (dOp rdPow (dLook 4) (dK1 (.int 5))) (dLook 3)))))))) (sRet (dVar 2)))))
theorem w__law_blend {G : Gc P ⟨K, w⟩} (g : Fx P w K mg G)  (hr : Room 0 (A.deeper (envOfC "_law_blend" (defScope s__law_blend) s.heap.objs.size f cdv))) :
    ∃ t, DSs (cxOf CX0 P w K mg base N__law_blend "_law_blend" (defScope s__law_blend) f cdv A outer s H E).nox (defBody s__law_blend) t (d__law_blend G) := by
  unfold d__law_blend
  exact ⟨_, (ds_cons (ds_putM 0 (set_dict (hu1 hr)) ls_dict (de_add (dc_of (de_ix (dict_item (hu1 hr)) lr_dk (dc_v 0) (dc_of de_str))) (dc_of de_int)) de_str) (ds_cons (ds_par 1 2 rfl sc__law_blend.nd (dv_of (de_cty call_int1 lc_int rfl g.b_int rfl (db_cons (dc_of (de_ix (dict_item (hu1 hr)) lr_dk (dc_v 0) (dc_of de_str))) db_nil))) (dv_of de_int)) (ds_cons (ds_for PassesOwn.never rfl (di_lst (de_lst (da_cons de_int (da_cons de_int (da_cons de_int da_nil))))) (dg_name 3 sc__law_blend.nd) (ds_cons (ds_set 4 sc__law_blend.nd (dv_of (de_mod (dc_of (de_add (dc_of (de_mul (dc_v 1) (dc_of de_int))) (dc_of (de_divW (dc_v 3) (dc_of de_int))))) (dc_v 3)))) (ds_cons (ds_for PassesOwn.never rfl (di_cells (de_ix (dict_item (hu1 hr)) lr_dk (dc_v 0) (dc_of de_str))) (dg_name 5 sc__law_blend.nd) (ds_one (ds_set 4 sc__law_blend.nd (dv_of (de_mod (dc_of (de_add (dc_of (de_mul (dc_v 4) (dc_of de_int))) (dc_of (de_cty call_int1 lc_int rfl g.b_int rfl (db_cons (dc_v 5) db_nil))))) (dc_v 3)))))) (ds_one (ds_set 2 sc__law_blend.nd (dv_of (de_add (dc_of (de_mul (dc_v 2) (dc_of de_int))) (dc_of (de_mod (dc_of (de_pow (dc_v 4) (dc_of de_int))) (dc_v 3)))))))))) (ds_one (ds_ret (de_v 2))))))⟩
abbrev s__law_draw : Stmt := top 80
def N__law_draw : List Str := ["tape", "size", "found"]
theorem sc__law_draw : FnScope N__law_draw ["tape", "size"] (defScope s__law_draw) := ⟨rfl, rfl, rfl, by decide +kernel, rfl, by decide +kernel, by decide +kernel⟩
def d__law_draw {P : Program} {KV : KW} (G : Gc P KV) : DTS := (sSeq (sIf (dTst (dOp rdEq (dOp rdDK (dLook 0) (dK1 (.str "rest"))) (dK1 (.int 0)))) (sPutM 0 sdD (dRefillP P KV 0 (dCallM 0 G.S__law_blend)) (dK1 (.str "rest"))) sNext) (sSeq (sSet 2 (vSh (dOp rdMod (dCB rdInt (bCons (dOp rdDK (dLook 0) (dK1 (.str "rest"))) bNil)) (dLook 1)))) (sSeq (sPutM 0 sdD (dOp (rdI CDivW fun i j => .int (i / j)) (dCB rdInt (bCons (dOp rdDK (dLook 0) (dK1 (.str "rest"))) bNil)) (dLook 1)) (dK1 (.str "rest"))) (sRet (dVar 2)))))
theorem w__law_draw {G : Gc P ⟨K, w⟩} (g : Fx P w K mg G) (k__law_blend : KnM P w K mg base 1 "_law_blend" G.S__law_blend) (hr : Room 1 (A.deeper (envOfC "_law_draw" (defScope s__law_draw) s.heap.objs.size f cdv))) :
    ∃ t, DSs (cxOf CX0 P w K mg base N__law_draw "_law_draw" (defScope s__law_draw) f cdv A outer s H E).nox (defBody s__law_draw) t (d__law_draw G) := by
  unfold d__law_draw
  exact ⟨_, (ds_cons (ds_if (dt_cmp op_eq lr_eq (dc_of (de_ix (dict_item (hu1 hr)) lr_dk (dc_v 0) (dc_of de_str))) (dc_of de_int)) (ds_one (ds_putM 0 (set_dict (hu1 hr)) ls_dict (de_refill (ps2 := ⟨0, 0, 0, 0⟩) 0 (hu64 hr) (pe_ix (dict_item (hu1 hr)) (pe_var (i := 0) rfl (Or.inl rfl)) pe_str (fun _ _ => rfl)) (pe_ix (dict_item (hu1 hr)) (pe_var (i := 0) rfl (Or.inl rfl)) pe_str (fun _ _ => rfl)) (de_callM 0 k__law_blend hr (by decide) rfl)) de_str)) ds_nil) (ds_cons (ds_set 2 sc__law_draw.nd (dv_of (de_mod (dc_of (de_cty call_int1 lc_int rfl g.b_int rfl (db_cons (dc_of (de_ix (dict_item (hu1 hr)) lr_dk (dc_v 0) (dc_of de_str))) db_nil))) (dc_v 1)))) (ds_cons (ds_putM 0 (set_dict (hu1 hr)) ls_dict (de_divW (dc_of (de_cty call_int1 lc_int rfl g.b_int rfl (db_cons (dc_of (de_ix (dict_item (hu1 hr)) lr_dk (dc_v 0) (dc_of de_str))) db_nil))) (dc_v 1)) de_str) (ds_one (ds_ret (de_v 2))))))⟩
abbrev s__law_pick : Stmt := top 81
def N__law_pick : List Str := ["tape", "several"]
theorem sc__law_pick : FnScope N__law_pick ["tape", "several"] (defScope s__law_pick) := ⟨rfl, rfl, rfl, by decide +kernel, rfl, by decide +kernel, by decide +kernel⟩
def d__law_pick {P : Program} {KV : KW} (G : Gc P KV) : DTS := (sRet (dOp rdIx (dLook 1) (dCall G.S__law_draw [] (dCons (dVar 0) (dCons (dCB rdLen (bCons (dLook 1) bNil)) dNil)))))
theorem w__law_pick {G : Gc P ⟨K, w⟩} (g : Fx P w K mg G) (k__law_draw : Kn P w K mg base 2 "_law_draw" G.S__law_draw []) (hr : Room 2 (A.deeper (envOfC "_law_pick" (defScope s__law_pick) s.heap.objs.size f cdv))) :
    ∃ t, DSs (cxOf CX0 P w K mg base N__law_pick "_law_pick" (defScope s__law_pick) f cdv A outer s H E).nox (defBody s__law_pick) t (d__law_pick G) := by
  unfold d__law_pick
  exact ⟨_, (ds_one (ds_ret (de_ix (r := rIx K) ix_seq lr_ix (dc_v 1) (dc_of (de_callF k__law_draw rfl rfl rfl rfl rfl hr (by decide) rfl (da_cons (de_v 0) (da_cons (de_cb (r := Dc.rLen K) cr_len lc_len rfl g.b_len rfl (db_cons (dc_v 1) db_nil)) da_nil)))))))⟩
abbrev s__law_watch : Stmt := top 82
def N__law_watch : List Str := ["tape", "places", "kinds", "words", "many", "moves", "place", "kind"]
theorem sc__law_watch : FnScope N__law_watch ["tape", "places", "kinds", "words"] (defScope s__law_watch) := ⟨rfl, rfl, rfl, by decide +kernel, rfl, by decide +kernel, by decide +kernel⟩
def d__law_watch {P : Program} {KV : KW} (G : Gc P KV) : DTS := (sSeq (sSet 4 (vSh (dOp rdAdd (dK1 (.int 1)) (dCall G.S__law_draw [] (dCons (dVar 0) (dCons (dVar 1) dNil)))))) (sSeq (sSet 5 (vSh (dCB rdTup (bCons (dLc (dRng1 (bCons (dLook 4) bNil)) (gSet 6) dYes (dCB rdTup (bCons (dLc (dRng1 (bCons (dLook 2) bNil)) (gSet 7) dYes (dCall G.S__law_draw [] (dCons (dVar 0) (dCons (dVar 4) dNil))) [7]) bNil)) [6]) bNil)))) (sRet (dTup (dCons (dVar 5) (dCons (dCB rdTup (bCons (dLc (dRng1 (bCons (dLook 4) bNil)) (gSet 6) dYes (dCall G.S__law_draw [] (dCons (dVar 0) (dCons (dVar 3) dNil))) [6]) bNil)) dNil))))))
theorem w__law_watch {G : Gc P ⟨K, w⟩} (g : Fx P w K mg G) (k__law_draw : Kn P w K mg base 2 "_law_draw" G.S__law_draw []) (hr : Room 2 (A.deeper (envOfC "_law_watch" (defScope s__law_watch) s.heap.objs.size f cdv))) :
    ∃ t, DSs (cxOf CX0 P w K mg base N__law_watch "_law_watch" (defScope s__law_watch) f cdv A outer s H E).nox (defBody s__law_watch) t (d__law_watch G) := by
  unfold d__law_watch
  exact ⟨_, (ds_cons (ds_set 4 sc__law_watch.nd (dv_of (de_add (dc_of de_int) (dc_of (de_callF k__law_draw rfl rfl rfl rfl rfl hr (by decide) rfl (da_cons (de_v 0) (da_cons (de_v 1) da_nil))))))) (ds_cons (ds_set 5 sc__law_watch.nd (dv_of (de_cty (r := Dc.rTup K) call_tuple_of lc_tup rfl g.b_tuple rfl (db_cons (dc_of (de_ow (dv_lc (own := [("place", 6)]) rfl sc__law_watch.nd (di_rng1 rfl g.b_range (db_cons (dc_v 4) db_nil)) (blkOk_by (own := [("place", 6)]) (by kernel_rfl)) (fun _ _ _ _ _ => (dg_name 6 sc__law_watch.nd)) (fun _ _ _ _ _ => dts_nil) (fun _ _ _ _ _ => (de_cty (r := Dc.rTup K) call_tuple_of lc_tup rfl g.b_tuple rfl (db_cons (dc_of (de_ow (dv_lc (own := [("kind", 7)]) rfl sc__law_watch.nd (di_rng1 rfl g.b_range (db_cons (dc_v 2) db_nil)) (blkOk_by (own := [("kind", 7)]) (by kernel_rfl)) (fun _ _ _ _ _ => (dg_name 7 sc__law_watch.nd)) (fun _ _ _ _ _ => dts_nil) (fun _ _ _ _ _ => (de_callF k__law_draw rfl rfl rfl rfl rfl hr (by decide) rfl (da_cons (de_v 0) (da_cons (de_v 4) da_nil)))) (by decide)))) db_nil))) (by decide)))) db_nil)))) (ds_one (ds_ret (de_tup (da_cons (de_v 5) (da_cons (de_cty (r := Dc.rTup K) call_tuple_of lc_tup rfl g.b_tuple rfl (db_cons (dc_of (de_ow (dv_lc (own := [("place", 6)]) rfl sc__law_watch.nd (di_rng1 rfl g.b_range (db_cons (dc_v 4) db_nil)) (blkOk_by (own := [("place", 6)]) (by kernel_rfl)) (fun _ _ _ _ _ => (dg_name 6 sc__law_watch.nd)) (fun _ _ _ _ _ => dts_nil) (fun _ _ _ _ _ => (de_callF k__law_draw rfl rfl rfl rfl rfl hr (by decide) rfl (da_cons (de_v 0) (da_cons (de_v 3) da_nil)))) (by decide)))) db_nil)) da_nil)))))))⟩
abbrev s__law_made : Stmt := top 83
def N__law_made : List Str := ["watch", "goals"]
theorem sc__law_made : FnScope N__law_made ["watch"] (defScope s__law_made) := ⟨rfl, rfl, rfl, by decide +kernel, rfl, by decide +kernel, by decide +kernel⟩
def d__law_made {P : Program} {KV : KW} (G : Gc P KV) : DTS := (sRet (dMake G.C G.S_init [] (dCons (dLc (dItup (dOp rdIx (dLook 0) (dK1 (.int 0)))) (gSet 1) dYes (dCB rdLst (bCons (dLook 1) bNil)) [1]) (dCons (dCB rdLst (bCons (dOp rdIx (dLook 0) (dK1 (.int 1))) bNil)) dNil))))
theorem w__law_made {G : Gc P ⟨K, w⟩} (g : Fx P w K mg G) (k_Watch : KnC P w K mg base 8 "Watch" G.C G.S_init []) (hr : Room 9 (A.deeper (envOfC "_law_made" (defScope s__law_made) s.heap.objs.size f cdv))) :
    ∃ t, DSs (cxOf CX0 P w K mg base N__law_made "_law_made" (defScope s__law_made) f cdv A outer s H E).nox (defBody s__law_made) t (d__law_made G) := by
  unfold d__law_made
  exact ⟨_, (ds_one (ds_ret (de_make k_Watch hr (by decide) rfl (da_cons (de_ow (dv_lc (own := [("goals", 1)]) rfl sc__law_made.nd (di_tup (de_ix (r := rIx K) ix_seq lr_ix (dc_v 0) (dc_of de_int))) (blkOk_by (own := [("goals", 1)]) (by kernel_rfl)) (fun _ _ _ _ _ => (dg_name 1 sc__law_made.nd)) (fun _ _ _ _ _ => dts_nil) (fun _ _ _ _ _ => (de_cty (r := Dc.rLst K) call_list_of lc_lst rfl g.b_list rfl (db_cons (dc_v 1) db_nil))) (by decide))) (da_cons (de_cty (r := Dc.rLst K) call_list_of lc_lst rfl g.b_list rfl (db_cons (dc_of (de_ix (r := rIx K) ix_seq lr_ix (dc_v 0) (dc_of de_int))) db_nil)) da_nil)))))⟩
abbrev s__law_row : Stmt := top 84
def N__law_row : List Str := ["tape", "watch", "most", "item"]
theorem sc__law_row : FnScope N__law_row ["tape", "watch", "most"] (defScope s__law_row) := ⟨rfl, rfl, rfl, by decide +kernel, rfl, by decide +kernel, by decide +kernel⟩
def d__law_row {P : Program} {KV : KW} (G : Gc P KV) : DTS := (sRet (dCB rdTup (bCons (dLc (dRng1 (bCons (dCall G.S__law_draw [] (dCons (dVar 0) (dCons (dOp rdAdd (dLook 2) (dK1 (.int 1))) dNil))) bNil)) (gSet 3) dYes (dCall G.S__law_draw [] (dCons (dVar 0) (dCons (dCB rdLen (bCons (dOp rdIx (dOp rdIx (dLook 1) (dK1 (.int 0))) (dK1 (.int 0))) bNil)) dNil))) [3]) bNil)))
theorem w__law_row {G : Gc P ⟨K, w⟩} (g : Fx P w K mg G) (k__law_draw : Kn P w K mg base 2 "_law_draw" G.S__law_draw []) (hr : Room 2 (A.deeper (envOfC "_law_row" (defScope s__law_row) s.heap.objs.size f cdv))) :
    ∃ t, DSs (cxOf CX0 P w K mg base N__law_row "_law_row" (defScope s__law_row) f cdv A outer s H E).nox (defBody s__law_row) t (d__law_row G) := by
  unfold d__law_row
  exact ⟨_, (ds_one (ds_ret (de_cty (r := Dc.rTup K) call_tuple_of lc_tup rfl g.b_tuple rfl (db_cons (dc_of (de_ow (dv_lc (own := [("item", 3)]) rfl sc__law_row.nd (di_rng1 rfl g.b_range (db_cons (dc_of (de_callF k__law_draw rfl rfl rfl rfl rfl hr (by decide) rfl (da_cons (de_v 0) (da_cons (de_add (dc_v 2) (dc_of de_int)) da_nil)))) db_nil)) (blkOk_by (own := [("item", 3)]) (by kernel_rfl)) (fun _ _ _ _ _ => (dg_name 3 sc__law_row.nd)) (fun _ _ _ _ _ => dts_nil) (fun _ _ _ _ _ => (de_callF k__law_draw rfl rfl rfl rfl rfl hr (by decide) rfl (da_cons (de_v 0) (da_cons (de_cb (r := Dc.rLen K) cr_len lc_len rfl g.b_len rfl (db_cons (dc_of (de_ix (r := rIx K) ix_seq lr_ix (dc_of (de_ix (r := rIx K) ix_seq lr_ix (dc_v 1) (dc_of de_int))) (dc_of de_int))) db_nil)) da_nil)))) (by decide)))) db_nil))))⟩
abbrev s__law_place : Stmt := top 85
def N__law_place : List Str := ["watch", "row", "place", "kind"]
theorem sc__law_place : FnScope N__law_place ["watch", "row"] (defScope s__law_place) := ⟨rfl, rfl, rfl, by decide +kernel, rfl, by decide +kernel, by decide +kernel⟩
def d__law_place {P : Program} {KV : KW} (G : Gc P KV) : DTS := (sSeq (sSet 2 (vSh (dK1 (.int 0)))) (sSeq (sFor (dItup (dVar 1)) (gSet 3) (sSet 2 (vSh (dOp rdIx (dOp rdIx (dOp rdIx (dLook 0) (dK1 (.int 0))) (dLook 2)) (dLook 3))))) (sRet (dVar 2))))
theorem w__law_place {G : Gc P ⟨K, w⟩} (g : Fx P w K mg G)  (hr : Room 0 (A.deeper (envOfC "_law_place" (defScope s__law_place) s.heap.objs.size f cdv))) :
    ∃ t, DSs (cxOf CX0 P w K mg base N__law_place "_law_place" (defScope s__law_place) f cdv A outer s H E).nox (defBody s__law_place) t (d__law_place G) := by
  unfold d__law_place
  exact ⟨_, (ds_cons (ds_set 2 sc__law_place.nd (dv_of de_int)) (ds_cons (ds_for PassesOwn.never rfl (di_tup (de_v 1)) (dg_name 3 sc__law_place.nd) (ds_one (ds_set 2 sc__law_place.nd (dv_of (de_ix (r := rIx K) ix_seq lr_ix (dc_of (de_ix (r := rIx K) ix_seq lr_ix (dc_of (de_ix (r := rIx K) ix_seq lr_ix (dc_v 0) (dc_of de_int))) (dc_v 2))) (dc_v 3)))))) (ds_one (ds_ret (de_v 2)))))⟩
abbrev s__law_weights : Stmt := top 86
def N__law_weights : List Str := ["tape", "kinds", "kind"]
theorem sc__law_weights : FnScope N__law_weights ["tape", "kinds"] (defScope s__law_weights) := ⟨rfl, rfl, rfl, by decide +kernel, rfl, by decide +kernel, by decide +kernel⟩
def d__law_weights {P : Program} {KV : KW} (G : Gc P KV) : DTS := (sRet (dLc (dRng1 (bCons (dLook 1) bNil)) (gSet 2) dYes (dCall G.S__law_pick [] (dCons (dVar 0) (dCons (dLst (dCons (dK1 (.int 1)) (dCons (dK1 (.int 1)) (dCons (dK1 (.int 2)) (dCons (dK1 (.int 3)) (dCons (dK1 (.int 5)) (dCons (dOp rdAdd (dK1 (.int 1)) (dCall G.S__law_draw [] (dCons (dVar 0) (dCons (dK1 (.int 30)) dNil)))) dNil))))))) dNil))) [2]))
theorem w__law_weights {G : Gc P ⟨K, w⟩} (g : Fx P w K mg G) (k__law_draw : Kn P w K mg base 2 "_law_draw" G.S__law_draw []) (k__law_pick : Kn P w K mg base 3 "_law_pick" G.S__law_pick []) (hr : Room 3 (A.deeper (envOfC "_law_weights" (defScope s__law_weights) s.heap.objs.size f cdv))) :
    ∃ t, DSs (cxOf CX0 P w K mg base N__law_weights "_law_weights" (defScope s__law_weights) f cdv A outer s H E).nox (defBody s__law_weights) t (d__law_weights G) := by
  unfold d__law_weights
  exact ⟨_, (ds_one (ds_ret (de_ow (dv_lc (own := [("kind", 2)]) rfl sc__law_weights.nd (di_rng1 rfl g.b_range (db_cons (dc_v 1) db_nil)) (blkOk_by (own := [("kind", 2)]) (by kernel_rfl)) (fun _ _ _ _ _ => (dg_name 2 sc__law_weights.nd)) (fun _ _ _ _ _ => dts_nil) (fun _ _ _ _ _ => (de_callF k__law_pick rfl rfl rfl rfl rfl hr (by decide) rfl (da_cons (de_v 0) (da_cons (de_lst (da_cons de_int (da_cons de_int (da_cons de_int (da_cons de_int (da_cons de_int (da_cons (de_add (dc_of de_int) (dc_of (de_callF k__law_draw rfl rfl rfl rfl rfl hr (by decide) rfl (da_cons (de_v 0) (da_cons de_int da_nil))))) da_nil))))))) da_nil)))) (by decide)))))⟩
abbrev s_law : Stmt := top 87
def N_law : List Str := ["script", "tape", "lap", "kinds", "told", "kept", "one", "other", "weights", "row", "shown", "words", "mode", "pairs", "last", "look", "found", "kind", "word", "mine", "yours"]
theorem sc_law : FnScope N_law ["script"] (defScope s_law) := ⟨rfl, rfl, rfl, by decide +kernel, rfl, by decide +kernel, by decide +kernel⟩
def d_law {P : Program} {KV : KW} (G : Gc P KV) : DTS := (sSeq (sSet 1 (vSh (dCall G.S__law_begun [] (dCons (dVar 0) dNil)))) (sSeq (sFor (dRng1 (bCons (dOp rdAdd (dK1 (.int 4)) (dCB rdMin2 (bCons (dCB rdLen (bCons (dLook 0) bNil)) (bCons (dK1 (.int 8)) bNil)))) bNil)) (gSet 2) (sSeq (sSet 3 (vSh (dOp rdAdd (dK1 (.int 2)) (dCall G.S__law_draw [] (dCons (dVar 1) (dCons (dK1 (.int 2)) dNil)))))) (sSeq (sPar 4 5 (vSh (dCall G.S__law_watch [] (dCons (dVar 1) (dCons (dK1 (.int 4)) (dCons (dVar 3) (dCons (dK1 (.int 2)) dNil)))))) (vSh (dCall G.S__law_watch [] (dCons (dVar 1) (dCons (dK1 (.int 4)) (dCons (dVar 3) (dCons (dK1 (.int 3)) dNil))))))) (sSeq (sAsg (dTup (dCons (dCall G.S__law_made [] (dCons (dVar 4) dNil)) (dCons (dCall G.S__law_made [] (dCons (dVar 5) dNil)) (dCons (dCall G.S__law_weights [] (dCons (dVar 1) (dCons (dVar 3) dNil))) dNil)))) (gTupD 3 (gsCons (gSet 6) (gsCons (gSet 7) (gsCons (gSet 8) gsNil))))) (sSeq (sSet 9 (vSh (dCall G.S__law_row [] (dCons (dVar 1) (dCons (dVar 4) (dCons (dK1 (.int 8)) dNil)))))) (sSeq (sSet 10 (vOw (dLc (dItup (dVar 9)) (gSet 17) dYes (dIf (dTst (dOp rdEq (dCall G.S__law_draw [] (dCons (dVar 1) (dCons (dK1 (.int 2)) dNil))) (dK1 (.int 0)))) (dK1 .non) (dVar 17)) [17]))) (sSeq (sSet 11 (vSh (dCallB G.S_leak [] (bCons (dLook 6) (bCons (dLook 7) (bCons (dLook 10) (bCons (dK1 (.str "counted")) bNil))))))) (sSeq (sIf (dOr (dTst (dOp rdNeD (dLook 11) (dCB rdTup (bCons (dCB rdSrtD (bCons (dCallB G.S_odds [] (bCons (dLook 7) (bCons (dLook 10) (bCons (dLook 8) bNil)))) bNil)) bNil)))) (dTst (dOp rdNeD (dLc (dItup (dVar 11)) (gSet 18) (dTst (dOp (rdIn true) (dLook 18) (dCallB G.S_leak [] (bCons (dLook 6) (bCons (dLook 7) (bCons (dLook 10) (bCons (dK1 (.str "lost")) bNil))))))) (dK1 (.int 1)) [18]) (dLst dNil)))) (sRet (dK1 (.bl false))) sNext) (sSeq (sFor (dIlst (dLst (dCons (dK1 (.str "counted")) (dCons (dK1 (.str "lost")) dNil)))) (gSet 12) (sSeq (sSet 13 (vSh (dCallB G.S_both_lead [] (bCons (dLook 6) (bCons (dLook 7) (bCons (dLook 10) (bCons (dLook 12) bNil))))))) (sIf (dOr (dTst (dOp rdNeD (dCB rdTup (bCons (dSortedSet (dLc (dItup (dVar 13)) (gTupD 2 (gsCons (gSet 19) (gsCons (gSet 20) gsNil))) dYes (dVar 19) [19, 20])) bNil)) (dCallB G.S_can_lead [] (bCons (dLook 6) (bCons (dLook 10) (bCons (dLook 12) bNil)))))) (dTst (dOp rdNeD (dCB rdTup (bCons (dSortedSet (dLc (dItup (dVar 13)) (gTupD 2 (gsCons (gSet 19) (gsCons (gSet 20) gsNil))) dYes (dVar 20) [19, 20])) bNil)) (dCallB G.S_can_lead [] (bCons (dLook 7) (bCons (dLook 10) (bCons (dLook 12) bNil))))))) (sRet (dK1 (.bl false))) sNext))) (sSeq (sSet 14 (vSh (dVar 11))) (sSeq (sFor (dRng1 (bCons (dOp rdAdd (dCB rdLen (bCons (dLook 9) bNil)) (dK1 (.int 1))) bNil)) (gSet 15) (sSeq (sSet 16 (vSh (dCallB G.S_most_telling [] (bCons (dLook 7) (bCons (dLook 10) (bCons (dLook 8) bNil)))))) (sSeq (sIf (dTst (dMapB isNonD (dLook 16))) sBrk sNext) (sSeq (sPut 10 sdL (dOp rdIx (dLook 9) (dOp rdIx (dLook 16) (dK1 (.int 0)))) (dOp rdIx (dLook 16) (dK1 (.int 0)))) (sSeq (sSet 11 (vSh (dCallB G.S_leak [] (bCons (dLook 6) (bCons (dLook 7) (bCons (dLook 10) (bCons (dK1 (.str "counted")) bNil))))))) (sSeq (sIf (dTst (dOp rdNeD (dLc (dItup (dVar 11)) (gSet 18) (dTst (dOp (rdIn true) (dLook 18) (dLook 14))) (dK1 (.int 1)) [18]) (dLst dNil))) (sRet (dK1 (.bl false))) sNext) (sSet 14 (vSh (dVar 11))))))))) (sIf (dTst (dOp rdNeD (dLook 14) (dTup (dCons (dOp rdIx (dOp rdIx (dLook 5) (dK1 (.int 1))) (dCall G.S__law_place [] (dCons (dVar 5) (dCons (dVar 9) dNil)))) dNil)))) (sRet (dK1 (.bl false))) sNext)))))))))))) (sRet (dK1 (.bl true)))))
theorem w_law {G : Gc P ⟨K, w⟩} (g : Fx P w K mg G) (k__law_begun : Kn P w K mg base 1 "_law_begun" G.S__law_begun []) (k__law_draw : Kn P w K mg base 2 "_law_draw" G.S__law_draw []) (k__law_made : Kn P w K mg base 10 "_law_made" G.S__law_made []) (k__law_place : Kn P w K mg base 1 "_law_place" G.S__law_place []) (k__law_row : Kn P w K mg base 3 "_law_row" G.S__law_row []) (k__law_watch : Kn P w K mg base 3 "_law_watch" G.S__law_watch []) (k__law_weights : Kn P w K mg base 4 "_law_weights" G.S__law_weights []) (k_both_lead : Kn P w K mg base 8 "both_lead" G.S_both_lead []) (k_can_lead : Kn P w K mg base 7 "can_lead" G.S_can_lead []) (k_leak : Kn P w K mg base 9 "leak" G.S_leak []) (k_most_telling : Kn P w K mg base 7 "most_telling" G.S_most_telling []) (k_odds : Kn P w K mg base 7 "odds" G.S_odds []) (hr : Room 10 (A.deeper (envOfC "law" (defScope s_law) s.heap.objs.size f cdv))) :
    ∃ t, DSs (cxOf CX0 P w K mg base N_law "law" (defScope s_law) f cdv A outer s H E).nox (defBody s_law) t (d_law G) := by
  unfold d_law
  exact ⟨_, (ds_cons (ds_set 1 sc_law.nd (dv_of (de_callF k__law_begun rfl rfl rfl rfl rfl hr (by decide) rfl (da_cons (de_v 0) da_nil)))) (ds_cons (ds_for PassesOwn.never rfl (di_rng1 rfl g.b_range (db_cons (dc_of (de_add (dc_of de_int) (dc_of (de_cb (call_min2 rfl) lc_min2 rfl g.b_min rfl (db_cons (dc_of (de_cb (r := Dc.rLen K) cr_len lc_len rfl g.b_len rfl (db_cons (dc_v 0) db_nil))) (db_cons (dc_of de_int) db_nil)))))) db_nil)) (dg_name 2 sc_law.nd) (ds_cons (ds_set 3 sc_law.nd (dv_of (de_add (dc_of de_int) (dc_of (de_callF k__law_draw rfl rfl rfl rfl rfl hr (by decide) rfl (da_cons (de_v 1) (da_cons de_int da_nil))))))) (ds_cons (ds_par 4 5 rfl sc_law.nd (dv_of (de_callF k__law_watch rfl rfl rfl rfl rfl hr (by decide) rfl (da_cons (de_v 1) (da_cons de_int (da_cons (de_v 3) (da_cons de_int da_nil)))))) (dv_of (de_callF k__law_watch rfl rfl rfl rfl rfl hr (by decide) rfl (da_cons (de_v 1) (da_cons de_int (da_cons (de_v 3) (da_cons de_int da_nil))))))) (ds_cons (ds_asg (de_tup (da_cons (de_callF k__law_made rfl rfl rfl rfl rfl hr (by decide) rfl (da_cons (de_v 4) da_nil)) (da_cons (de_callF k__law_made rfl rfl rfl rfl rfl hr (by decide) rfl (da_cons (de_v 5) da_nil)) (da_cons (de_callF k__law_weights rfl rfl rfl rfl rfl hr (by decide) rfl (da_cons (de_v 1) (da_cons (de_v 3) da_nil))) da_nil)))) (dg_tupF (K := K) rfl rfl (dgs_cons (dg_name 6 sc_law.nd) (dgs_cons (dg_name 7 sc_law.nd) (dgs_cons (dg_name 8 sc_law.nd) dgs_nil))))) (ds_cons (ds_set 9 sc_law.nd (dv_of (de_callF k__law_row rfl rfl rfl rfl rfl hr (by decide) rfl (da_cons (de_v 1) (da_cons (de_v 4) (da_cons de_int da_nil)))))) (ds_cons (ds_set 10 sc_law.nd (dv_lc (own := [("kind", 17)]) rfl sc_law.nd (di_tup (de_v 9)) (blkOk_by (own := [("kind", 17)]) (by kernel_rfl)) (fun _ _ _ _ _ => (dg_name 17 sc_law.nd)) (fun _ _ _ _ _ => dts_nil) (fun _ _ _ _ _ => (de_if (dt_cmp op_eq lr_eq (dc_of (de_callF k__law_draw rfl rfl rfl rfl rfl hr (by decide) rfl (da_cons (de_v 1) (da_cons de_int da_nil)))) (dc_of de_int)) de_non (de_v 17))) (by decide))) (ds_cons (ds_set 11 sc_law.nd (dv_of (de_callBF k_leak rfl rfl rfl rfl rfl hr (by decide) rfl (db_cons (dc_v 6) (db_cons (dc_v 7) (db_cons (dc_v 10) (db_cons (dc_of de_str) db_nil))))))) (ds_cons (ds_if (DW.dt (dw_or (dt_cmp (r := rNeD K) (op_neD (hu64 hr)) lr_neD (dc_v 11) (dc_of (de_cty (r := Dc.rTup K) call_tuple_of lc_tup rfl g.b_tuple rfl (db_cons (dc_of (de_cb (r := Dc.rSrtD w K) (cr_srtD (hu64 hr) rfl) lc_srtD rfl g.b_sorted rfl (db_cons (dc_of (de_callBF k_odds rfl rfl rfl rfl rfl hr (by decide) rfl (db_cons (dc_v 7) (db_cons (dc_v 10) (db_cons (dc_v 8) db_nil))))) db_nil))) db_nil)))) (dw_or1 (dt_cmp (r := rNeD K) (op_neD (hu64 hr)) lr_neD (dc_of (de_ow (dv_lc (own := [("word", 18)]) rfl sc_law.nd (di_tup (de_v 11)) (blkOk_by (own := [("word", 18)]) (by kernel_rfl)) (fun _ _ _ _ _ => (dg_name 18 sc_law.nd)) (fun _ _ _ _ _ => (dts_one (dt_cmp (r := rIn K true) op_notIn_seq (lr_in true) (dc_v 18) (dc_of (de_callBF k_leak rfl rfl rfl rfl rfl hr (by decide) rfl (db_cons (dc_v 6) (db_cons (dc_v 7) (db_cons (dc_v 10) (db_cons (dc_of de_str) db_nil))))))))) (fun _ _ _ _ _ => de_int) (by decide)))) (dc_of (de_lst da_nil)))))) (ds_one (ds_ret de_bl)) ds_nil) (ds_cons (ds_for PassesOwn.never rfl (di_lst (de_lst (da_cons de_str (da_cons de_str da_nil)))) (dg_name 12 sc_law.nd) (ds_cons (ds_set 13 sc_law.nd (dv_of (de_callBF k_both_lead rfl rfl rfl rfl rfl hr (by decide) rfl (db_cons (dc_v 6) (db_cons (dc_v 7) (db_cons (dc_v 10) (db_cons (dc_v 12) db_nil))))))) (ds_one (ds_if (DW.dt (dw_or (dt_cmp (r := rNeD K) (op_neD (hu64 hr)) lr_neD (dc_of (de_cty (r := Dc.rTup K) call_tuple_of lc_tup rfl g.b_tuple rfl (db_cons (dc_of (de_sortedSet rfl rfl g.b_sorted rfl g.b_set (dc_of (de_ow (dv_lc (own := [("mine", 19), ("yours", 20)]) rfl sc_law.nd (di_tup (de_v 13)) (blkOk_by (own := [("mine", 19), ("yours", 20)]) (by kernel_rfl)) (fun _ _ _ _ _ => (dg_tupF (K := K) rfl rfl (dgs_cons (dg_name 19 sc_law.nd) (dgs_cons (dg_name 20 sc_law.nd) dgs_nil)))) (fun _ _ _ _ _ => dts_nil) (fun _ _ _ _ _ => (de_v 19)) (by decide)))))) db_nil))) (dc_of (de_callBF k_can_lead rfl rfl rfl rfl rfl hr (by decide) rfl (db_cons (dc_v 6) (db_cons (dc_v 10) (db_cons (dc_v 12) db_nil)))))) (dw_or1 (dt_cmp (r := rNeD K) (op_neD (hu64 hr)) lr_neD (dc_of (de_cty (r := Dc.rTup K) call_tuple_of lc_tup rfl g.b_tuple rfl (db_cons (dc_of (de_sortedSet rfl rfl g.b_sorted rfl g.b_set (dc_of (de_ow (dv_lc (own := [("mine", 19), ("yours", 20)]) rfl sc_law.nd (di_tup (de_v 13)) (blkOk_by (own := [("mine", 19), ("yours", 20)]) (by kernel_rfl)) (fun _ _ _ _ _ => (dg_tupF (K := K) rfl rfl (dgs_cons (dg_name 19 sc_law.nd) (dgs_cons (dg_name 20 sc_law.nd) dgs_nil)))) (fun _ _ _ _ _ => dts_nil) (fun _ _ _ _ _ => (de_v 20)) (by decide)))))) db_nil))) (dc_of (de_callBF k_can_lead rfl rfl rfl rfl rfl hr (by decide) rfl (db_cons (dc_v 7) (db_cons (dc_v 10) (db_cons (dc_v 12) db_nil))))))))) (ds_one (ds_ret de_bl)) ds_nil)))) (ds_cons (ds_set 14 sc_law.nd (dv_of (de_v 11))) (ds_cons (ds_for PassesOwn.never rfl (di_rng1 rfl g.b_range (db_cons (dc_of (de_add (dc_of (de_cb (r := Dc.rLen K) cr_len lc_len rfl g.b_len rfl (db_cons (dc_v 9) db_nil))) (dc_of de_int))) db_nil)) (dg_name 15 sc_law.nd) (ds_cons (ds_set 16 sc_law.nd (dv_of (de_callBF k_most_telling rfl rfl rfl rfl rfl hr (by decide) rfl (db_cons (dc_v 7) (db_cons (dc_v 10) (db_cons (dc_v 8) db_nil)))))) (ds_cons (ds_if (dt_isN (dc_v 16)) (ds_one ds_brk) ds_nil) (ds_cons (ds_put 10 set_list ls_list (de_ix (r := rIx K) ix_seq lr_ix (dc_v 9) (dc_of (de_ix (r := rIx K) ix_seq lr_ix (dc_v 16) (dc_of de_int)))) (de_ix (r := rIx K) ix_seq lr_ix (dc_v 16) (dc_of de_int))) (ds_cons (ds_set 11 sc_law.nd (dv_of (de_callBF k_leak rfl rfl rfl rfl rfl hr (by decide) rfl (db_cons (dc_v 6) (db_cons (dc_v 7) (db_cons (dc_v 10) (db_cons (dc_of de_str) db_nil))))))) (ds_cons (ds_if (dt_cmp (r := rNeD K) (op_neD (hu64 hr)) lr_neD (dc_of (de_ow (dv_lc (own := [("word", 18)]) rfl sc_law.nd (di_tup (de_v 11)) (blkOk_by (own := [("word", 18)]) (by kernel_rfl)) (fun _ _ _ _ _ => (dg_name 18 sc_law.nd)) (fun _ _ _ _ _ => (dts_one (dt_cmp (r := rIn K true) op_notIn_seq (lr_in true) (dc_v 18) (dc_v 14)))) (fun _ _ _ _ _ => de_int) (by decide)))) (dc_of (de_lst da_nil))) (ds_one (ds_ret de_bl)) ds_nil) (ds_one (ds_set 14 sc_law.nd (dv_of (de_v 11)))))))))) (ds_one (ds_if (dt_cmp (r := rNeD K) (op_neD (hu64 hr)) lr_neD (dc_v 14) (dc_of (de_tup (da_cons (de_ix (r := rIx K) ix_seq lr_ix (dc_of (de_ix (r := rIx K) ix_seq lr_ix (dc_v 5) (dc_of de_int))) (dc_of (de_callF k__law_place rfl rfl rfl rfl rfl hr (by decide) rfl (da_cons (de_v 5) (da_cons (de_v 9) da_nil))))) da_nil)))) (ds_one (ds_ret de_bl)) ds_nil))))))))))))) (ds_one (ds_ret de_bl))))⟩
end
end K33

namespace K33
open PySem PySem.Spec PyProof.Rows L2 Dc
variable [TabsT]
section
variable {P : Program} {KV : KW} (G : Gc P KV)
abbrev Rd (S : SD) (d : DTS) (n : Nat) : Prop := ∀ ds Q, S ds Q → d { nx := fun _ => Q .non, rt := fun x _ => Q x } (rho0 n ds)
theorem rd_is_number : Rd S_is_number (d_is_number G) N_is_number.length := by
  rintro _ Q ⟨i, rfl, h⟩
  simp only [d_is_number, N_is_number]
  simp only [rho0, List.map_cons, List.map_nil, List.length_cons, List.length_nil, List.cons_append, List.nil_append, List.replicate, Nat.sub_self, Nat.add_sub_cancel, dVar, dLook, dOp, dOpE, dMapB, dChain, dTst, dAnd, dOr, dNot, dAndV, dOrV, dNotV, dIf, dNil, dCons, bNil, bCons, dTup, dLst, dCB, dCall, sFor, dEnum, gTupD, gsCons, gsNil, gSet, dAct, dLc, dIlst, dItup, wipeR, dYes, dProp, dFld, dRng1, dIsC, Dc.rdLen, rdIx, Dc.rdAll, rdNe, rdEq, scalD, List.length_map, sFldD, dLst, dRng2, capS, lamL, rhoF, capSl, sSeq, sIf, sRet, sSet, sExpr, sNext, sNever, vSh, vOw, dK1, dIsi, dIsi2, isD, rdI0, rdI, List.getElem?_cons_zero, List.getElem?_cons_succ, Nat.reduceAdd, Nat.reduceSub, List.set_cons_zero, List.set_cons_succ, Option.some.injEq, exists_eq_left', exists_eq_left, true_implies, false_implies, and_true, true_and, reduceCtorEq, Bool.not_true, Bool.not_false, Bool.false_eq_true, implies_true]
  exact h
theorem rd_is_between (h1 : G.S_is_number = S_is_number) : Rd S_is_between (d_is_between G) N_is_between.length := by
  rintro _ Q ⟨i, lo, hi, rfl, h⟩
  simp only [d_is_between, N_is_between, h1]
  simp only [rho0, List.map_cons, List.map_nil, List.length_cons, List.length_nil, List.cons_append, List.nil_append, List.replicate, Nat.sub_self, Nat.add_sub_cancel, dVar, dLook, dOp, dOpE, dMapB, dChain, dTst, dAnd, dOr, dNot, dAndV, dOrV, dNotV, dIf, dNil, dCons, bNil, bCons, dTup, dLst, dCB, dCall, sFor, dEnum, gTupD, gsCons, gsNil, gSet, dAct, dLc, dIlst, dItup, wipeR, dYes, dProp, dFld, dRng1, dIsC, Dc.rdLen, rdIx, Dc.rdAll, rdNe, rdEq, scalD, List.length_map, sFldD, dLst, dRng2, capS, lamL, rhoF, capSl, sSeq, sIf, sRet, sSet, sExpr, sNext, sNever, vSh, vOw, dK1, dIsi, dIsi2, isD, rdI0, rdI, List.getElem?_cons_zero, List.getElem?_cons_succ, Nat.reduceAdd, Nat.reduceSub, List.set_cons_zero, List.set_cons_succ, Option.some.injEq, exists_eq_left', exists_eq_left, true_implies, false_implies, and_true, true_and, reduceCtorEq, Bool.not_true, Bool.not_false, Bool.false_eq_true, implies_true]
  refine ⟨i, rfl, fun _ => ?_, fun e => nomatch e⟩
  by_cases a : lo ≤ i
  · rw [decide_eq_true a]
    by_cases b : i ≤ hi
    · simpa [a, b] using h
    · simpa [a, b] using h
  · rw [decide_eq_false a]
    simpa [a] using h
theorem rd_is_list : Rd S_is_list (d_is_list G) N_is_list.length := by
  rintro _ Q ⟨xs, rfl | rfl, h⟩
  · simp only [d_is_list, N_is_list]
    simp only [rho0, List.map_cons, List.map_nil, List.length_cons, List.length_nil, List.cons_append, List.nil_append, List.replicate, Nat.sub_self, Nat.add_sub_cancel, dVar, dLook, dOp, dOpE, dMapB, dChain, dTst, dAnd, dOr, dNot, dAndV, dOrV, dNotV, dIf, dNil, dCons, bNil, bCons, dTup, dLst, dCB, dCall, sFor, dEnum, gTupD, gsCons, gsNil, gSet, dAct, dLc, dIlst, dItup, wipeR, dYes, dProp, dFld, dRng1, dIsC, Dc.rdLen, rdIx, Dc.rdAll, rdNe, rdEq, scalD, List.length_map, sFldD, dLst, dRng2, capS, lamL, rhoF, capSl, sSeq, sIf, sRet, sSet, sExpr, sNext, sNever, vSh, vOw, dK1, dIsi, dIsi2, isD, rdI0, rdI, List.getElem?_cons_zero, List.getElem?_cons_succ, Nat.reduceAdd, Nat.reduceSub, List.set_cons_zero, List.set_cons_succ, Option.some.injEq, exists_eq_left', exists_eq_left, true_implies, false_implies, and_true, true_and, reduceCtorEq, Bool.not_true, Bool.not_false, Bool.false_eq_true, implies_true]
    exact ⟨_, _, rfl, rfl, h⟩
  · simp only [d_is_list, N_is_list]
    simp only [rho0, List.map_cons, List.map_nil, List.length_cons, List.length_nil, List.cons_append, List.nil_append, List.replicate, Nat.sub_self, Nat.add_sub_cancel, dVar, dLook, dOp, dOpE, dMapB, dChain, dTst, dAnd, dOr, dNot, dAndV, dOrV, dNotV, dIf, dNil, dCons, bNil, bCons, dTup, dLst, dCB, dCall, sFor, dEnum, gTupD, gsCons, gsNil, gSet, dAct, dLc, dIlst, dItup, wipeR, dYes, dProp, dFld, dRng1, dIsC, Dc.rdLen, rdIx, Dc.rdAll, rdNe, rdEq, scalD, List.length_map, sFldD, dLst, dRng2, capS, lamL, rhoF, capSl, sSeq, sIf, sRet, sSet, sExpr, sNext, sNever, vSh, vOw, dK1, dIsi, dIsi2, isD, rdI0, rdI, List.getElem?_cons_zero, List.getElem?_cons_succ, Nat.reduceAdd, Nat.reduceSub, List.set_cons_zero, List.set_cons_succ, Option.some.injEq, exists_eq_left', exists_eq_left, true_implies, false_implies, and_true, true_and, reduceCtorEq, Bool.not_true, Bool.not_false, Bool.false_eq_true, implies_true]
    exact ⟨_, _, rfl, rfl, h⟩
theorem rd_mode_right : Rd S_mode_right (d_mode_right G) N_mode_right.length := by
  rintro _ Q ⟨m, rfl, h⟩
  simp only [d_mode_right, N_mode_right]
  simp only [rho0, List.map_cons, List.map_nil, List.length_cons, List.length_nil, List.cons_append, List.nil_append, List.replicate, Nat.sub_self, Nat.add_sub_cancel, dVar, dLook, dOp, dOpE, dMapB, dChain, dTst, dAnd, dOr, dNot, dAndV, dOrV, dNotV, dIf, dNil, dCons, bNil, bCons, dTup, dLst, dCB, dCall, sFor, dEnum, gTupD, gsCons, gsNil, gSet, dAct, dLc, dIlst, dItup, wipeR, dYes, dProp, dFld, dRng1, dIsC, Dc.rdLen, rdIx, Dc.rdAll, rdNe, rdEq, scalD, List.length_map, sFldD, dLst, dRng2, capS, lamL, rhoF, capSl, sSeq, sIf, sRet, sSet, sExpr, sNext, sNever, vSh, vOw, dK1, dIsi, dIsi2, isD, rdI0, rdI, List.getElem?_cons_zero, List.getElem?_cons_succ, Nat.reduceAdd, Nat.reduceSub, List.set_cons_zero, List.set_cons_succ, Option.some.injEq, exists_eq_left', exists_eq_left, true_implies, false_implies, and_true, true_and, reduceCtorEq, Bool.not_true, Bool.not_false, Bool.false_eq_true, implies_true]
  refine ⟨by decide, ?_⟩
  cases m
  · exact ⟨rfl, rfl, h⟩
  · exact ⟨rfl, rfl, h⟩
theorem rd_need_mode (h1 : G.S_mode_right = S_mode_right) : Rd S_need_mode (d_need_mode G) N_need_mode.length := by
  rintro _ Q ⟨m, rfl, h⟩
  simp only [d_need_mode, N_need_mode, h1]
  simp only [rho0, List.map_cons, List.map_nil, List.length_cons, List.length_nil, List.cons_append, List.nil_append, List.replicate, Nat.sub_self, Nat.add_sub_cancel, dVar, dLook, dOp, dOpE, dMapB, dChain, dTst, dAnd, dOr, dNot, dAndV, dOrV, dNotV, dIf, dNil, dCons, bNil, bCons, dTup, dLst, dCB, dCall, sFor, dEnum, gTupD, gsCons, gsNil, gSet, dAct, dLc, dIlst, dItup, wipeR, dYes, dProp, dFld, dRng1, dIsC, Dc.rdLen, rdIx, Dc.rdAll, rdNe, rdEq, scalD, List.length_map, sFldD, dLst, dRng2, capS, lamL, rhoF, capSl, sSeq, sIf, sRet, sSet, sExpr, sNext, sNever, vSh, vOw, dK1, dIsi, dIsi2, isD, rdI0, rdI, List.getElem?_cons_zero, List.getElem?_cons_succ, Nat.reduceAdd, Nat.reduceSub, List.set_cons_zero, List.set_cons_succ, Option.some.injEq, exists_eq_left', exists_eq_left, true_implies, false_implies, and_true, true_and, reduceCtorEq, Bool.not_true, Bool.not_false, Bool.false_eq_true, implies_true]
  exact ⟨m, rfl, (show _ ∧ _ from ⟨fun e => (nomatch e), fun _ => h⟩)⟩
theorem rd_is_word (h1 : G.S_is_between = S_is_between) : Rd S_is_word (d_is_word G) N_is_word.length := by
  rintro _ Q ⟨i, rfl, h⟩
  simp only [d_is_word, N_is_word, h1]
  simp only [rho0, List.map_cons, List.map_nil, List.length_cons, List.length_nil, List.cons_append, List.nil_append, List.replicate, Nat.sub_self, Nat.add_sub_cancel, dVar, dLook, dOp, dOpE, dMapB, dChain, dTst, dAnd, dOr, dNot, dAndV, dOrV, dNotV, dIf, dNil, dCons, bNil, bCons, dTup, dLst, dCB, dCall, sFor, dEnum, gTupD, gsCons, gsNil, gSet, dAct, dLc, dIlst, dItup, wipeR, dYes, dProp, dFld, dRng1, dIsC, Dc.rdLen, rdIx, Dc.rdAll, rdNe, rdEq, scalD, List.length_map, sFldD, dLst, dRng2, capS, lamL, rhoF, capSl, sSeq, sIf, sRet, sSet, sExpr, sNext, sNever, vSh, vOw, dK1, dIsi, dIsi2, isD, rdI0, rdI, List.getElem?_cons_zero, List.getElem?_cons_succ, Nat.reduceAdd, Nat.reduceSub, List.set_cons_zero, List.set_cons_succ, Option.some.injEq, exists_eq_left', exists_eq_left, true_implies, false_implies, and_true, true_and, reduceCtorEq, Bool.not_true, Bool.not_false, Bool.false_eq_true, implies_true]
  exact ⟨i, 0, 3, rfl, h⟩
theorem rd_first_wrong {f : Addr} : ∀ ds Q, S_first_wrong f ds Q → d_first_wrong (.rf f) S_is_word { nx := fun _ => Q .non, rt := fun x _ => Q x } (rho0 N_first_wrong.length ds) := by
  rintro _ Q ⟨ns, rfl, hl, hw, h⟩
  simp only [d_first_wrong, N_first_wrong]
  simp only [rho0, List.map_cons, List.map_nil, List.length_cons, List.length_nil, List.cons_append, List.nil_append, List.replicate, Nat.sub_self, Nat.add_sub_cancel, dVar, dLook, dOp, dOpE, dMapB, dChain, dTst, dAnd, dOr, dNot, dAndV, dOrV, dNotV, dIf, dNil, dCons, bNil, bCons, dTup, dLst, dCB, dCall, sFor, dEnum, gTupD, gsCons, gsNil, gSet, dAct, dLc, dIlst, dItup, wipeR, dYes, dProp, dFld, dRng1, dIsC, Dc.rdLen, rdIx, Dc.rdAll, rdNe, rdEq, scalD, List.length_map, sFldD, dLst, dRng2, capS, lamL, rhoF, capSl, sSeq, sIf, sRet, sSet, sExpr, sNext, sNever, vSh, vOw, dK1, dIsi, dIsi2, isD, rdI0, rdI, List.getElem?_cons_zero, List.getElem?_cons_succ, Nat.reduceAdd, Nat.reduceSub, List.set_cons_zero, List.set_cons_succ, Option.some.injEq, exists_eq_left', exists_eq_left, true_implies, false_implies, and_true, true_and, reduceCtorEq, Bool.not_true, Bool.not_false, Bool.false_eq_true, implies_true]
  refine ⟨fun _ ρ => ∃ a b, ρ = [.sh (lsD ns), .sh (.rf f), a, b], ⟨_, _, rfl⟩, fun i x ρ hx ⟨a, b, e⟩ => ?_, fun ρ _ => h⟩
  obtain ⟨n, hn, rfl⟩ := getEnum hx
  subst e
  simp only [rho0, List.map_cons, List.map_nil, List.length_cons, List.length_nil, List.cons_append, List.nil_append, List.replicate, Nat.sub_self, Nat.add_sub_cancel, dVar, dLook, dOp, dOpE, dMapB, dChain, dTst, dAnd, dOr, dNot, dAndV, dOrV, dNotV, dIf, dNil, dCons, bNil, bCons, dTup, dLst, dCB, dCall, sFor, dEnum, gTupD, gsCons, gsNil, gSet, dAct, dLc, dIlst, dItup, wipeR, dYes, dProp, dFld, dRng1, dIsC, Dc.rdLen, rdIx, Dc.rdAll, rdNe, rdEq, scalD, List.length_map, sFldD, dLst, dRng2, capS, lamL, rhoF, capSl, sSeq, sIf, sRet, sSet, sExpr, sNext, sNever, vSh, vOw, dK1, dIsi, dIsi2, isD, rdI0, rdI, List.getElem?_cons_zero, List.getElem?_cons_succ, Nat.reduceAdd, Nat.reduceSub, List.set_cons_zero, List.set_cons_succ, Option.some.injEq, exists_eq_left', exists_eq_left, true_implies, false_implies, and_true, true_and, reduceCtorEq, Bool.not_true, Bool.not_false, Bool.false_eq_true, implies_true]
  refine ⟨by decide, by decide, n, rfl, ?_⟩
  have := hw n (mem_of hn)
  rw [decide_eq_true (by omega)]
  exact ⟨fun e => (nomatch e), fun _ => ⟨_, _, rfl⟩⟩
theorem rd_is_line (h1 : G.S_is_between = S_is_between) (h2 : G.S_is_list = S_is_list) : Rd S_is_line (d_is_line G) N_is_line.length := by
  rintro _ Q ⟨ns, p, rfl, hl, hw, h⟩
  simp only [d_is_line, N_is_line, h1, h2]
  simp only [rho0, List.map_cons, List.map_nil, List.length_cons, List.length_nil, List.cons_append, List.nil_append, List.replicate, Nat.sub_self, Nat.add_sub_cancel, dVar, dLook, dOp, dOpE, dMapB, dChain, dTst, dAnd, dOr, dNot, dAndV, dOrV, dNotV, dIf, dNil, dCons, bNil, bCons, dTup, dLst, dCB, dCall, sFor, dEnum, gTupD, gsCons, gsNil, gSet, dAct, dLc, dIlst, dItup, wipeR, dYes, dProp, dFld, dRng1, dIsC, Dc.rdLen, rdIx, Dc.rdAll, rdNe, rdEq, scalD, List.length_map, sFldD, dLst, dRng2, capS, lamL, rhoF, capSl, sSeq, sIf, sRet, sSet, sExpr, sNext, sNever, vSh, vOw, dK1, dIsi, dIsi2, isD, rdI0, rdI, List.getElem?_cons_zero, List.getElem?_cons_succ, Nat.reduceAdd, Nat.reduceSub, List.set_cons_zero, List.set_cons_succ, Option.some.injEq, exists_eq_left', exists_eq_left, true_implies, false_implies, and_true, true_and, reduceCtorEq, Bool.not_true, Bool.not_false, Bool.false_eq_true, implies_true]
  refine ⟨_, .inl rfl, ?_⟩
  refine ⟨fun e => (nomatch e), fun _ => ?_⟩
  refine ⟨fun e => by simp at e, fun _ => ⟨?_, ?_, ?_⟩⟩
  · intro j hj d
    simp only [List.mem_cons, List.not_mem_nil, or_false] at hj
    subst hj
    simp
  · rw [sizeLine_eq]; omega
  · refine ⟨fun i acc => acc = List.replicate i (.bl true), rfl, fun i x acc hx e => ?_, fun acc e => ?_⟩
    · obtain ⟨n, hn, rfl⟩ := getMap hx
      have := hw n (mem_of hn)
      refine ⟨by decide, _, _, _, rfl, ?_⟩
      rw [decide_eq_true (by omega), show acc = List.replicate i (.bl true) from e]
      exact (List.replicate_succ' ..).symm
    · subst e
      refine ⟨List.replicate ns.length true, by simp, ?_⟩
      simpa using h
theorem rd_need_words (h1 : G.S_first_wrong = S_first_wrong G.f_is_word) (h2 : G.S_is_list = S_is_list) : Rd S_need_words (d_need_words G) N_need_words.length := by
  rintro _ Q ⟨ns, rfl, hl, hw, h⟩
  simp only [d_need_words, N_need_words, h1, h2]
  simp only [rho0, List.map_cons, List.map_nil, List.length_cons, List.length_nil, List.cons_append, List.nil_append, List.replicate, Nat.sub_self, Nat.add_sub_cancel, dVar, dLook, dOp, dOpE, dMapB, dChain, dTst, dAnd, dOr, dNot, dAndV, dOrV, dNotV, dIf, dNil, dCons, bNil, bCons, dTup, dLst, dCB, dCall, sFor, dEnum, gTupD, gsCons, gsNil, gSet, dAct, dLc, dIlst, dItup, wipeR, dYes, dProp, dFld, dRng1, dIsC, Dc.rdLen, rdIx, Dc.rdAll, rdNe, rdEq, scalD, List.length_map, sFldD, dLst, dRng2, capS, lamL, rhoF, capSl, sSeq, sIf, sRet, sSet, sExpr, sNext, sNever, vSh, vOw, dK1, dIsi, dIsi2, isD, rdI0, rdI, List.getElem?_cons_zero, List.getElem?_cons_succ, Nat.reduceAdd, Nat.reduceSub, List.set_cons_zero, List.set_cons_succ, Option.some.injEq, exists_eq_left', exists_eq_left, true_implies, false_implies, and_true, true_and, reduceCtorEq, Bool.not_true, Bool.not_false, Bool.false_eq_true, implies_true]
  refine ⟨_, .inl rfl, fun e => (nomatch e), fun _ => ⟨fun e => by simp at e, fun _ => ?_⟩⟩
  exact ⟨ns, rfl, hl, hw, fun e => (nomatch e), fun _ => h⟩
theorem rd_moves : Rd (S_moves G.C) (d_moves G) N_moves.length := by
  rintro _ Q ⟨W, rfl, h⟩
  simp only [d_moves, N_moves]
  simp only [rho0, List.map_cons, List.map_nil, List.length_cons, List.length_nil, List.cons_append, List.nil_append, List.replicate, Nat.sub_self, Nat.add_sub_cancel, dVar, dLook, dOp, dOpE, dMapB, dChain, dTst, dAnd, dOr, dNot, dAndV, dOrV, dNotV, dIf, dNil, dCons, bNil, bCons, dTup, dLst, dCB, dCall, sFor, dEnum, gTupD, gsCons, gsNil, gSet, dAct, dLc, dIlst, dItup, wipeR, dYes, dProp, dFld, dRng1, dIsC, Dc.rdLen, rdIx, Dc.rdAll, rdNe, rdEq, scalD, List.length_map, sFldD, dLst, dRng2, capS, lamL, rhoF, capSl, sSeq, sIf, sRet, sSet, sExpr, sNext, sNever, vSh, vOw, dK1, dIsi, dIsi2, isD, rdI0, rdI, List.getElem?_cons_zero, List.getElem?_cons_succ, Nat.reduceAdd, Nat.reduceSub, List.set_cons_zero, List.set_cons_succ, Option.some.injEq, exists_eq_left', exists_eq_left, true_implies, false_implies, and_true, true_and, reduceCtorEq, Bool.not_true, Bool.not_false, Bool.false_eq_true, implies_true]
  exact ⟨_, rfl, h⟩
theorem rd_words : Rd (S_words G.C) (d_words G) N_words.length := by
  rintro _ Q ⟨W, rfl, h⟩
  simp only [d_words, N_words]
  simp only [rho0, List.map_cons, List.map_nil, List.length_cons, List.length_nil, List.cons_append, List.nil_append, List.replicate, Nat.sub_self, Nat.add_sub_cancel, dVar, dLook, dOp, dOpE, dMapB, dChain, dTst, dAnd, dOr, dNot, dAndV, dOrV, dNotV, dIf, dNil, dCons, bNil, bCons, dTup, dLst, dCB, dCall, sFor, dEnum, gTupD, gsCons, gsNil, gSet, dAct, dLc, dIlst, dItup, wipeR, dYes, dProp, dFld, dRng1, dIsC, Dc.rdLen, rdIx, Dc.rdAll, rdNe, rdEq, scalD, List.length_map, sFldD, dLst, dRng2, capS, lamL, rhoF, capSl, sSeq, sIf, sRet, sSet, sExpr, sNext, sNever, vSh, vOw, dK1, dIsi, dIsi2, isD, rdI0, rdI, List.getElem?_cons_zero, List.getElem?_cons_succ, Nat.reduceAdd, Nat.reduceSub, List.set_cons_zero, List.set_cons_succ, Option.some.injEq, exists_eq_left', exists_eq_left, true_implies, false_implies, and_true, true_and, reduceCtorEq, Bool.not_true, Bool.not_false, Bool.false_eq_true, implies_true]
  exact ⟨_, rfl, h⟩
theorem rd_kinds : Rd (S_kinds G.C) (d_kinds G) N_kinds.length := by
  rintro _ Q ⟨W, k, ok, rfl, h⟩
  simp only [d_kinds, N_kinds]
  simp only [rho0, List.map_cons, List.map_nil, List.length_cons, List.length_nil, List.cons_append, List.nil_append, List.replicate, Nat.sub_self, Nat.add_sub_cancel, dVar, dLook, dOp, dOpE, dMapB, dChain, dTst, dAnd, dOr, dNot, dAndV, dOrV, dNotV, dIf, dNil, dCons, bNil, bCons, dTup, dLst, dCB, dCall, sFor, dEnum, gTupD, gsCons, gsNil, gSet, dAct, dLc, dIlst, dItup, wipeR, dYes, dProp, dFld, dRng1, dIsC, Dc.rdLen, rdIx, Dc.rdAll, rdNe, rdEq, scalD, List.length_map, sFldD, dLst, dRng2, capS, lamL, rhoF, capSl, sSeq, sIf, sRet, sSet, sExpr, sNext, sNever, vSh, vOw, dK1, dIsi, dIsi2, isD, rdI0, rdI, List.getElem?_cons_zero, List.getElem?_cons_succ, Nat.reduceAdd, Nat.reduceSub, List.set_cons_zero, List.set_cons_succ, Option.some.injEq, exists_eq_left', exists_eq_left, true_implies, false_implies, and_true, true_and, reduceCtorEq, Bool.not_true, Bool.not_false, Bool.false_eq_true, implies_true]
  have n1 := ok.n1
  obtain ⟨r, hr⟩ : ∃ r, W.mv[0]? = some r := ⟨W.mv[0], by simp [n1]⟩
  refine ⟨_, rfl, psD r, atI_map (j := 0) hr, ?_⟩
  have e := (ok.row r (mem_of hr)).1
  show Q (.int (((r.map natD).length : Nat) : Int))
  rw [List.length_map, e]
  exact h
theorem rd_need_watch : Rd (S_need_watch G.C) (d_need_watch G) N_need_watch.length := by
  rintro _ Q ⟨W, d, rfl, h⟩
  simp only [d_need_watch, N_need_watch]
  simp only [rho0, List.map_cons, List.map_nil, List.length_cons, List.length_nil, List.cons_append, List.nil_append, List.replicate, Nat.sub_self, Nat.add_sub_cancel, dVar, dLook, dOp, dOpE, dMapB, dChain, dTst, dAnd, dOr, dNot, dAndV, dOrV, dNotV, dIf, dNil, dCons, bNil, bCons, dTup, dLst, dCB, dCall, sFor, dEnum, gTupD, gsCons, gsNil, gSet, dAct, dLc, dIlst, dItup, wipeR, dYes, dProp, dFld, dRng1, dIsC, Dc.rdLen, rdIx, Dc.rdAll, rdNe, rdEq, scalD, List.length_map, sFldD, dLst, dRng2, capS, lamL, rhoF, capSl, sSeq, sIf, sRet, sSet, sExpr, sNext, sNever, vSh, vOw, dK1, dIsi, dIsi2, isD, rdI0, rdI, List.getElem?_cons_zero, List.getElem?_cons_succ, Nat.reduceAdd, Nat.reduceSub, List.set_cons_zero, List.set_cons_succ, Option.some.injEq, exists_eq_left', exists_eq_left, true_implies, false_implies, and_true, true_and, reduceCtorEq, Bool.not_true, Bool.not_false, Bool.false_eq_true, implies_true]
  exact h
theorem rd_need_moves (h1 : G.S_is_line = S_is_line) (h2 : G.S_is_list = S_is_list) : Rd S_need_moves (d_need_moves G) N_need_moves.length := by
  rintro _ Q ⟨W, k, ok, rfl, h⟩
  simp only [d_need_moves, N_need_moves, h1, h2]
  simp only [rho0, List.map_cons, List.map_nil, List.length_cons, List.length_nil, List.cons_append, List.nil_append, List.replicate, Nat.sub_self, Nat.add_sub_cancel, dVar, dLook, dOp, dOpE, dMapB, dChain, dTst, dAnd, dOr, dNot, dAndV, dOrV, dNotV, dIf, dNil, dCons, bNil, bCons, dTup, dLst, dCB, dCall, sFor, dEnum, gTupD, gsCons, gsNil, gSet, dAct, dLc, dIlst, dItup, wipeR, dYes, dProp, dFld, dRng1, dIsC, Dc.rdLen, rdIx, Dc.rdAll, rdNe, rdEq, scalD, List.length_map, sFldD, dLst, dRng2, capS, lamL, rhoF, capSl, sSeq, sIf, sRet, sSet, sExpr, sNext, sNever, vSh, vOw, dK1, dIsi, dIsi2, isD, rdI0, rdI, List.getElem?_cons_zero, List.getElem?_cons_succ, Nat.reduceAdd, Nat.reduceSub, List.set_cons_zero, List.set_cons_succ, Option.some.injEq, exists_eq_left', exists_eq_left, true_implies, false_implies, and_true, true_and, reduceCtorEq, Bool.not_true, Bool.not_false, Bool.false_eq_true, implies_true]
  have n1 := ok.n1
  have n6 := ok.n6
  refine ⟨_, .inl rfl, fun e => (nomatch e), fun _ => ?_⟩
  rw [decide_eq_true (show (1 : Int) ≤ (W.mv.length : Int) by omega)]
  refine ⟨fun e => by simp at e; omega, fun _ => ?_⟩
  obtain ⟨r, hr⟩ : ∃ r, W.mv[0]? = some r := ⟨W.mv[0], by simp [n1]⟩
  have er := (ok.row r (mem_of hr)).1
  refine ⟨lsD r, atI_map (j := 0) hr, _, .inl rfl, fun e => (nomatch e), fun _ => ?_⟩
  have k1 := ok.k1
  have k4 := ok.k4
  show (match D.bl (decide ((1 : Int) ≤ ((r.map natD).length : Nat))) with | .bl true => _ | .bl false => _ | _ => _)
  rw [decide_eq_true (show (1 : Int) ≤ ((r.map natD).length : Nat) by rw [List.length_map]; omega)]
  refine ⟨fun e => by simp at e; omega, fun _ => ?_⟩
  unfold dLamC d_first_wrong
  simp only [rho0, List.map_cons, List.map_nil, List.length_cons, List.length_nil, List.cons_append, List.nil_append, List.replicate, Nat.sub_self, Nat.add_sub_cancel, dVar, dLook, dOp, dOpE, dMapB, dChain, dTst, dAnd, dOr, dNot, dAndV, dOrV, dNotV, dIf, dNil, dCons, bNil, bCons, dTup, dLst, dCB, dCall, sFor, dEnum, gTupD, gsCons, gsNil, gSet, dAct, dLc, dIlst, dItup, wipeR, dYes, dProp, dFld, dRng1, dIsC, Dc.rdLen, rdIx, Dc.rdAll, rdNe, rdEq, scalD, List.length_map, sFldD, dLst, dRng2, capS, lamL, rhoF, capSl, sSeq, sIf, sRet, sSet, sExpr, sNext, sNever, vSh, vOw, dK1, dIsi, dIsi2, isD, rdI0, rdI, List.getElem?_cons_zero, List.getElem?_cons_succ, Nat.reduceAdd, Nat.reduceSub, List.set_cons_zero, List.set_cons_succ, Option.some.injEq, exists_eq_left', exists_eq_left, true_implies, false_implies, and_true, true_and, reduceCtorEq, Bool.not_true, Bool.not_false, Bool.false_eq_true, implies_true]
  intro x
  refine ⟨fun _ ρ => ∃ a b, ρ = [.sh (.lst (W.mv.map lsD)), .sh x, a, b], ⟨_, _, rfl⟩, fun i y ρ hx ⟨a, b, e⟩ => ?_, fun ρ _ => ⟨rfl, fun e => (nomatch e), fun _ => h⟩⟩
  obtain ⟨n, hn, rfl⟩ := getEnum hx
  subst e
  simp only [rho0, List.map_cons, List.map_nil, List.length_cons, List.length_nil, List.cons_append, List.nil_append, List.replicate, Nat.sub_self, Nat.add_sub_cancel, dVar, dLook, dOp, dOpE, dMapB, dChain, dTst, dAnd, dOr, dNot, dAndV, dOrV, dNotV, dIf, dNil, dCons, bNil, bCons, dTup, dLst, dCB, dCall, sFor, dEnum, gTupD, gsCons, gsNil, gSet, dAct, dLc, dIlst, dItup, wipeR, dYes, dProp, dFld, dRng1, dIsC, Dc.rdLen, rdIx, Dc.rdAll, rdNe, rdEq, scalD, List.length_map, sFldD, dLst, dRng2, capS, lamL, rhoF, capSl, sSeq, sIf, sRet, sSet, sExpr, sNext, sNever, vSh, vOw, dK1, dIsi, dIsi2, isD, rdI0, rdI, List.getElem?_cons_zero, List.getElem?_cons_succ, Nat.reduceAdd, Nat.reduceSub, List.set_cons_zero, List.set_cons_succ, Option.some.injEq, exists_eq_left', exists_eq_left, true_implies, false_implies, and_true, true_and, reduceCtorEq, Bool.not_true, Bool.not_false, Bool.false_eq_true, implies_true]
  refine ⟨by decide, by decide, ?_⟩
  have en := ok.row n (mem_of hn)
  refine ⟨n, W.mv.length, ?_, by rw [en.1]; exact k4, en.2, fun e => (nomatch e), fun _ => ⟨_, _, rfl⟩⟩
  rw [en.1, er]
theorem rd_init (h1 : G.S_need_moves = S_need_moves) (h2 : G.S_need_words = S_need_words) : ∀ a x0 ds Q, S_init G.C x0 ds Q → d_init G { nx := fun ρ => ∃ x', ρ[0]? = some (.my a x') ∧ Q .non x', rt := fun z ρ => ∃ x', ρ[0]? = some (.my a x') ∧ Q z x' } (rho1 N_init.length a x0 ds) := by
  rintro a _ _ Q ⟨W, k, ok, rfl, rfl, h⟩
  simp only [d_init, N_init, h1, h2, rho1]
  simp only [rho0, List.map_cons, List.map_nil, List.length_cons, List.length_nil, List.cons_append, List.nil_append, List.replicate, Nat.sub_self, Nat.add_sub_cancel, dVar, dLook, dOp, dOpE, dMapB, dChain, dTst, dAnd, dOr, dNot, dAndV, dOrV, dNotV, dIf, dNil, dCons, bNil, bCons, dTup, dLst, dCB, dCall, sFor, dEnum, gTupD, gsCons, gsNil, gSet, dAct, dLc, dIlst, dItup, wipeR, dYes, dProp, dFld, dRng1, dIsC, Dc.rdLen, rdIx, Dc.rdAll, rdNe, rdEq, scalD, List.length_map, sFldD, dLst, dRng2, capS, lamL, rhoF, capSl, sSeq, sIf, sRet, sSet, sExpr, sNext, sNever, vSh, vOw, dK1, dIsi, dIsi2, isD, rdI0, rdI, List.getElem?_cons_zero, List.getElem?_cons_succ, Nat.reduceAdd, Nat.reduceSub, List.set_cons_zero, List.set_cons_succ, Option.some.injEq, exists_eq_left', exists_eq_left, true_implies, false_implies, and_true, true_and, reduceCtorEq, Bool.not_true, Bool.not_false, Bool.false_eq_true, implies_true]
  have n6 := ok.n6
  refine ⟨W, k, ok, rfl, W.wd, by rw [ok.wl], by rw [ok.wl]; exact n6, ok.w3, ?_, ?_, ?_⟩
  · intro j hj d
    simp only [List.mem_cons, List.not_mem_nil, or_false] at hj
    subst hj
    simp
  · rw [sizeLine_eq]; omega
  · refine ⟨fun i acc => acc = (W.mv.take i).map psD, by simp, fun i x acc hx e => ?_, fun acc e => ?_⟩
    · obtain ⟨r, hr, rfl⟩ := getMap hx
      refine ⟨by decide, ?_⟩
      show acc ++ [psD r] = _
      rw [takeS hr, show acc = _ from e]
      simp
    · subst e
      show 0 < 1000 ∧ _ 
      refine ⟨by decide, ?_⟩
      show (fputK [] _).length < 1000 ∧ _
      refine ⟨by decide, _, rfl, ?_⟩
      rw [List.take_length]
      exact h
theorem rd_need_shown (h1 : G.S_is_list = S_is_list) (h2 : G.S_is_between = S_is_between) (h3 : G.S_kinds = S_kinds G.C) : Rd (S_need_shown G.C) (d_need_shown G) N_need_shown.length := by
  rintro _ Q ⟨W, k, s, ok, sh, rfl, h⟩
  simp only [d_need_shown, N_need_shown, h1, h2, h3]
  simp only [rho0, List.map_cons, List.map_nil, List.length_cons, List.length_nil, List.cons_append, List.nil_append, List.replicate, Nat.sub_self, Nat.add_sub_cancel, dVar, dLook, dOp, dOpE, dMapB, dChain, dTst, dAnd, dOr, dNot, dAndV, dOrV, dNotV, dIf, dNil, dCons, bNil, bCons, dTup, dLst, dCB, dCall, sFor, dEnum, gTupD, gsCons, gsNil, gSet, dAct, dLc, dIlst, dItup, wipeR, dYes, dProp, dFld, dRng1, dIsC, Dc.rdLen, rdIx, Dc.rdAll, rdNe, rdEq, scalD, List.length_map, sFldD, dLst, dRng2, capS, lamL, rhoF, capSl, sSeq, sIf, sRet, sSet, sExpr, sNext, sNever, vSh, vOw, dK1, dIsi, dIsi2, isD, rdI0, rdI, List.getElem?_cons_zero, List.getElem?_cons_succ, Nat.reduceAdd, Nat.reduceSub, List.set_cons_zero, List.set_cons_succ, Option.some.injEq, exists_eq_left', exists_eq_left, true_implies, false_implies, and_true, true_and, reduceCtorEq, Bool.not_true, Bool.not_false, Bool.false_eq_true, implies_true]
  have ln := sh.ln
  refine ⟨_, .inl rfl, fun e => (nomatch e), fun _ => ⟨fun e => by simp at e; omega, fun _ => ?_⟩⟩
  refine ⟨fun _ ρ => ∃ a b, ρ = [.sh (wD G.C W), .sh (shD s), a, b], ⟨_, _, rfl⟩, fun i x ρ hx ⟨a, b, e⟩ => ?_, fun ρ _ => h⟩
  obtain ⟨n, hn, rfl⟩ := getEnum hx
  subst e
  simp only [rho0, List.map_cons, List.map_nil, List.length_cons, List.length_nil, List.cons_append, List.nil_append, List.replicate, Nat.sub_self, Nat.add_sub_cancel, dVar, dLook, dOp, dOpE, dMapB, dChain, dTst, dAnd, dOr, dNot, dAndV, dOrV, dNotV, dIf, dNil, dCons, bNil, bCons, dTup, dLst, dCB, dCall, sFor, dEnum, gTupD, gsCons, gsNil, gSet, dAct, dLc, dIlst, dItup, wipeR, dYes, dProp, dFld, dRng1, dIsC, Dc.rdLen, rdIx, Dc.rdAll, rdNe, rdEq, scalD, List.length_map, sFldD, dLst, dRng2, capS, lamL, rhoF, capSl, sSeq, sIf, sRet, sSet, sExpr, sNext, sNever, vSh, vOw, dK1, dIsi, dIsi2, isD, rdI0, rdI, List.getElem?_cons_zero, List.getElem?_cons_succ, Nat.reduceAdd, Nat.reduceSub, List.set_cons_zero, List.set_cons_succ, Option.some.injEq, exists_eq_left', exists_eq_left, true_implies, false_implies, and_true, true_and, reduceCtorEq, Bool.not_true, Bool.not_false, Bool.false_eq_true, implies_true]
  refine ⟨by decide, by decide, ?_⟩
  cases n with
  | none => exact ⟨fun e => (nomatch e), fun _ => ⟨_, _, rfl⟩⟩
  | some n =>
    have := sh.kd n (mem_of hn)
    refine ⟨fun _ => ⟨⟨_, _, rfl⟩, W, k, ok, rfl, n, 0, _, rfl, ?_⟩, fun e => (nomatch e)⟩
    rw [decide_eq_true (by have := ok.k1; omega)]
    exact ⟨fun e => (nomatch e), fun _ => ⟨_, _, rfl⟩⟩
theorem rd_unknown_by (h1 : G.S_next_by = S_next_by G.C) (h2 : G.S_reached_by = S_reached_by G.C) : Rd (S_unknown_by G.C) (d_unknown_by G) N_unknown_by.length := by
  rintro _ Q ⟨W, K, m, ps, ok, p, rfl, h⟩
  simp only [d_unknown_by, N_unknown_by, h1, h2]
  simp only [rho0, List.map_cons, List.map_nil, List.length_cons, List.length_nil, List.cons_append, List.nil_append, List.replicate, Nat.sub_self, Nat.add_sub_cancel, dVar, dLook, dOp, dOpE, dMapB, dChain, dTst, dAnd, dOr, dNot, dAndV, dOrV, dNotV, dIf, dNil, dCons, bNil, bCons, dTup, dLst, dCB, dCall, sFor, dEnum, gTupD, gsCons, gsNil, gSet, dAct, dLc, dIlst, dItup, wipeR, dYes, dProp, dFld, dRng1, dIsC, Dc.rdLen, rdIx, Dc.rdAll, rdNe, rdEq, scalD, List.length_map, sFldD, dLst, dRng2, capS, lamL, rhoF, capSl, sSeq, sIf, sRet, sSet, sExpr, sNext, sNever, vSh, vOw, dK1, dIsi, dIsi2, isD, rdI0, rdI, List.getElem?_cons_zero, List.getElem?_cons_succ, Nat.reduceAdd, Nat.reduceSub, List.set_cons_zero, List.set_cons_succ, Option.some.injEq, exists_eq_left', exists_eq_left, true_implies, false_implies, and_true, true_and, reduceCtorEq, Bool.not_true, Bool.not_false, Bool.false_eq_true, implies_true]
  cases m with
  | true => exact ⟨fun _ => ⟨W, K, ps, ok, p, rfl, h⟩, fun e => by simp at e⟩
  | false => exact ⟨fun e => absurd (of_decide_eq_true e) (by decide), fun _ => ⟨W, K, ps, ok, p, rfl, h⟩⟩
theorem rd_behind_by (h1 : G.S_unknown_by = S_unknown_by G.C) (h2 : G.S_known_by = S_known_by G.C) : Rd (S_behind_by G.C) (d_behind_by G) N_behind_by.length := by
  rintro _ Q ⟨W, K, m, ps, it, ok, p, hk, rfl, h⟩
  simp only [d_behind_by, N_behind_by, h1, h2]
  simp only [rho0, List.map_cons, List.map_nil, List.length_cons, List.length_nil, List.cons_append, List.nil_append, List.replicate, Nat.sub_self, Nat.add_sub_cancel, dVar, dLook, dOp, dOpE, dMapB, dChain, dTst, dAnd, dOr, dNot, dAndV, dOrV, dNotV, dIf, dNil, dCons, bNil, bCons, dTup, dLst, dCB, dCall, sFor, dEnum, gTupD, gsCons, gsNil, gSet, dAct, dLc, dIlst, dItup, wipeR, dYes, dProp, dFld, dRng1, dIsC, Dc.rdLen, rdIx, Dc.rdAll, rdNe, rdEq, scalD, List.length_map, sFldD, dLst, dRng2, capS, lamL, rhoF, capSl, sSeq, sIf, sRet, sSet, sExpr, sNext, sNever, vSh, vOw, dK1, dIsi, dIsi2, isD, rdI0, rdI, List.getElem?_cons_zero, List.getElem?_cons_succ, Nat.reduceAdd, Nat.reduceSub, List.set_cons_zero, List.set_cons_succ, Option.some.injEq, exists_eq_left', exists_eq_left, true_implies, false_implies, and_true, true_and, reduceCtorEq, Bool.not_true, Bool.not_false, Bool.false_eq_true, implies_true]
  cases it with
  | none => exact ⟨fun _ => ⟨W, K, m, ps, ok, p, rfl, h⟩, fun e => (nomatch e)⟩
  | some k => exact ⟨fun e => (nomatch e), fun _ => ⟨W, K, ps, k, ok, p, hk k rfl, rfl, h⟩⟩
theorem rd_can_lead (h1 : G.S_need_watch = S_need_watch G.C) (h2 : G.S_need_shown = S_need_shown G.C) (h3 : G.S_need_mode = S_need_mode) (h4 : G.S_led_by = S_led_by G.C) : Rd (S_can_lead G.C) (d_can_lead G) N_can_lead.length := by
  rintro _ Q ⟨W, K, m, s, ok, sh, rfl, h⟩
  simp only [d_can_lead, N_can_lead, h1, h2, h3, h4]
  simp only [rho0, List.map_cons, List.map_nil, List.length_cons, List.length_nil, List.cons_append, List.nil_append, List.replicate, Nat.sub_self, Nat.add_sub_cancel, dVar, dLook, dOp, dOpE, dMapB, dChain, dTst, dAnd, dOr, dNot, dAndV, dOrV, dNotV, dIf, dNil, dCons, bNil, bCons, dTup, dLst, dCB, dCall, sFor, dEnum, gTupD, gsCons, gsNil, gSet, dAct, dLc, dIlst, dItup, wipeR, dYes, dProp, dFld, dRng1, dIsC, Dc.rdLen, rdIx, Dc.rdAll, rdNe, rdEq, scalD, List.length_map, sFldD, dLst, dRng2, capS, lamL, rhoF, capSl, sSeq, sIf, sRet, sSet, sExpr, sNext, sNever, vSh, vOw, dK1, dIsi, dIsi2, isD, rdI0, rdI, List.getElem?_cons_zero, List.getElem?_cons_succ, Nat.reduceAdd, Nat.reduceSub, List.set_cons_zero, List.set_cons_succ, Option.some.injEq, exists_eq_left', exists_eq_left, true_implies, false_implies, and_true, true_and, reduceCtorEq, Bool.not_true, Bool.not_false, Bool.false_eq_true, implies_true]
  exact ⟨W, _, rfl, W, K, s, ok, sh, rfl, m, rfl, W, K, m, s, ok, sh, rfl, h⟩
theorem rd_need_told (h1 : G.S_need_watch = S_need_watch G.C) (h2 : G.S_kinds = S_kinds G.C) : Rd (S_need_told G.C) (d_need_told G) N_need_told.length := by
  rintro _ Q ⟨V, W, K, okv, ok, rfl, h⟩
  simp only [d_need_told, N_need_told, h1, h2]
  simp only [rho0, List.map_cons, List.map_nil, List.length_cons, List.length_nil, List.cons_append, List.nil_append, List.replicate, Nat.sub_self, Nat.add_sub_cancel, dVar, dLook, dOp, dOpE, dMapB, dChain, dTst, dAnd, dOr, dNot, dAndV, dOrV, dNotV, dIf, dNil, dCons, bNil, bCons, dTup, dLst, dCB, dCall, sFor, dEnum, gTupD, gsCons, gsNil, gSet, dAct, dLc, dIlst, dItup, wipeR, dYes, dProp, dFld, dRng1, dIsC, Dc.rdLen, rdIx, Dc.rdAll, rdNe, rdEq, scalD, List.length_map, sFldD, dLst, dRng2, capS, lamL, rhoF, capSl, sSeq, sIf, sRet, sSet, sExpr, sNext, sNever, vSh, vOw, dK1, dIsi, dIsi2, isD, rdI0, rdI, List.getElem?_cons_zero, List.getElem?_cons_succ, Nat.reduceAdd, Nat.reduceSub, List.set_cons_zero, List.set_cons_succ, Option.some.injEq, exists_eq_left', exists_eq_left, true_implies, false_implies, and_true, true_and, reduceCtorEq, Bool.not_true, Bool.not_false, Bool.false_eq_true, implies_true]
  refine ⟨V, _, rfl, W, _, rfl, ⟨_, _, rfl⟩, V, K, okv, rfl, ⟨_, _, rfl⟩, W, K, ok, rfl, ?_⟩
  simpa using h
theorem rd_need_told_shown (h1 : G.S_need_told = S_need_told G.C) (h2 : G.S_need_shown = S_need_shown G.C) (h3 : G.S_need_mode = S_need_mode) : Rd (S_need_told_shown G.C) (d_need_told_shown G) N_need_told_shown.length := by
  rintro _ Q ⟨V, W, K, m, s, okv, ok, sh, rfl, h⟩
  simp only [d_need_told_shown, N_need_told_shown, h1, h2, h3]
  simp only [rho0, List.map_cons, List.map_nil, List.length_cons, List.length_nil, List.cons_append, List.nil_append, List.replicate, Nat.sub_self, Nat.add_sub_cancel, dVar, dLook, dOp, dOpE, dMapB, dChain, dTst, dAnd, dOr, dNot, dAndV, dOrV, dNotV, dIf, dNil, dCons, bNil, bCons, dTup, dLst, dCB, dCall, sFor, dEnum, gTupD, gsCons, gsNil, gSet, dAct, dLc, dIlst, dItup, wipeR, dYes, dProp, dFld, dRng1, dIsC, Dc.rdLen, rdIx, Dc.rdAll, rdNe, rdEq, scalD, List.length_map, sFldD, dLst, dRng2, capS, lamL, rhoF, capSl, sSeq, sIf, sRet, sSet, sExpr, sNext, sNever, vSh, vOw, dK1, dIsi, dIsi2, isD, rdI0, rdI, List.getElem?_cons_zero, List.getElem?_cons_succ, Nat.reduceAdd, Nat.reduceSub, List.set_cons_zero, List.set_cons_succ, Option.some.injEq, exists_eq_left', exists_eq_left, true_implies, false_implies, and_true, true_and, reduceCtorEq, Bool.not_true, Bool.not_false, Bool.false_eq_true, implies_true]
  exact ⟨V, W, K, okv, ok, rfl, V, K, s, okv, sh, rfl, m, rfl, h⟩
theorem rd_both_lead (h1 : G.S_need_told_shown = S_need_told_shown G.C) (h2 : G.S_both_by = S_both_by G.C) : Rd (S_both_lead G.C) (d_both_lead G) N_both_lead.length := by
  rintro _ Q ⟨V, W, K, m, s, okv, ok, sh, rfl, h⟩
  simp only [d_both_lead, N_both_lead, h1, h2]
  simp only [rho0, List.map_cons, List.map_nil, List.length_cons, List.length_nil, List.cons_append, List.nil_append, List.replicate, Nat.sub_self, Nat.add_sub_cancel, dVar, dLook, dOp, dOpE, dMapB, dChain, dTst, dAnd, dOr, dNot, dAndV, dOrV, dNotV, dIf, dNil, dCons, bNil, bCons, dTup, dLst, dCB, dCall, sFor, dEnum, gTupD, gsCons, gsNil, gSet, dAct, dLc, dIlst, dItup, wipeR, dYes, dProp, dFld, dRng1, dIsC, Dc.rdLen, rdIx, Dc.rdAll, rdNe, rdEq, scalD, List.length_map, sFldD, dLst, dRng2, capS, lamL, rhoF, capSl, sSeq, sIf, sRet, sSet, sExpr, sNext, sNever, vSh, vOw, dK1, dIsi, dIsi2, isD, rdI0, rdI, List.getElem?_cons_zero, List.getElem?_cons_succ, Nat.reduceAdd, Nat.reduceSub, List.set_cons_zero, List.set_cons_succ, Option.some.injEq, exists_eq_left', exists_eq_left, true_implies, false_implies, and_true, true_and, reduceCtorEq, Bool.not_true, Bool.not_false, Bool.false_eq_true, implies_true]
  exact ⟨V, W, K, m, s, okv, ok, sh, rfl, V, W, K, m, s, okv, ok, sh, rfl, h⟩
theorem rd_leak (h1 : G.S_need_told_shown = S_need_told_shown G.C) (h2 : G.S_leak_by = S_leak_by G.C) : Rd (S_leak G.C) (d_leak G) N_leak.length := by
  rintro _ Q ⟨V, W, K, m, s, okv, ok, sh, rfl, h⟩
  simp only [d_leak, N_leak, h1, h2]
  simp only [rho0, List.map_cons, List.map_nil, List.length_cons, List.length_nil, List.cons_append, List.nil_append, List.replicate, Nat.sub_self, Nat.add_sub_cancel, dVar, dLook, dOp, dOpE, dMapB, dChain, dTst, dAnd, dOr, dNot, dAndV, dOrV, dNotV, dIf, dNil, dCons, bNil, bCons, dTup, dLst, dCB, dCall, sFor, dEnum, gTupD, gsCons, gsNil, gSet, dAct, dLc, dIlst, dItup, wipeR, dYes, dProp, dFld, dRng1, dIsC, Dc.rdLen, rdIx, Dc.rdAll, rdNe, rdEq, scalD, List.length_map, sFldD, dLst, dRng2, capS, lamL, rhoF, capSl, sSeq, sIf, sRet, sSet, sExpr, sNext, sNever, vSh, vOw, dK1, dIsi, dIsi2, isD, rdI0, rdI, List.getElem?_cons_zero, List.getElem?_cons_succ, Nat.reduceAdd, Nat.reduceSub, List.set_cons_zero, List.set_cons_succ, Option.some.injEq, exists_eq_left', exists_eq_left, true_implies, false_implies, and_true, true_and, reduceCtorEq, Bool.not_true, Bool.not_false, Bool.false_eq_true, implies_true]
  exact ⟨V, W, K, m, s, okv, ok, sh, rfl, V, W, K, m, s, okv, ok, sh, rfl, h⟩
theorem rd_led_by (h1 : G.S_behind_by = S_behind_by G.C) : Rd (S_led_by G.C) (d_led_by G) N_led_by.length := by
  rintro _ Q ⟨W, K, m, s, ok, sh, rfl, h⟩
  simp only [d_led_by, N_led_by, h1]
  simp only [rho0, List.map_cons, List.map_nil, List.length_cons, List.length_nil, List.cons_append, List.nil_append, List.replicate, Nat.sub_self, Nat.add_sub_cancel, dVar, dLook, dOp, dOpE, dMapB, dChain, dTst, dAnd, dOr, dNot, dAndV, dOrV, dNotV, dIf, dNil, dCons, bNil, bCons, dTup, dLst, dCB, dCall, sFor, dEnum, gTupD, gsCons, gsNil, gSet, dAct, dLc, dIlst, dItup, wipeR, dYes, dProp, dFld, dRng1, dIsC, Dc.rdLen, rdIx, Dc.rdAll, rdNe, rdEq, scalD, List.length_map, sFldD, dLst, dRng2, capS, lamL, rhoF, capSl, sSeq, sIf, sRet, sSet, sExpr, sNext, sNever, vSh, vOw, dK1, dIsi, dIsi2, isD, rdI0, rdI, List.getElem?_cons_zero, List.getElem?_cons_succ, Nat.reduceAdd, Nat.reduceSub, List.set_cons_zero, List.set_cons_succ, Option.some.injEq, exists_eq_left', exists_eq_left, true_implies, false_implies, and_true, true_and, reduceCtorEq, Bool.not_true, Bool.not_false, Bool.false_eq_true, implies_true]
  refine ⟨fun i ρ => ∃ ps a, ρ = [.sh (wD G.C W), .sh (shD s), .sh (modeD m), .sh (psD ps), a] ∧ SetIs ps (ledW W K m (s.take i)) ∧ Ps W ps, ⟨[0], _, rfl, ⟨by simp, fun q => by simp [ledW]⟩, by simp, fun p hp => by simp at hp; rw [hp]; exact ok.n1⟩, fun i x ρ hx ⟨ps, a, e, hs, hp⟩ => ?_, fun ρ ⟨ps, a, e, hs, hp⟩ => ?_⟩
  · obtain ⟨it, hi, rfl⟩ := getMap hx
    subst e
    simp only [rho0, List.map_cons, List.map_nil, List.length_cons, List.length_nil, List.cons_append, List.nil_append, List.replicate, Nat.sub_self, Nat.add_sub_cancel, dVar, dLook, dOp, dOpE, dMapB, dChain, dTst, dAnd, dOr, dNot, dAndV, dOrV, dNotV, dIf, dNil, dCons, bNil, bCons, dTup, dLst, dCB, dCall, sFor, dEnum, gTupD, gsCons, gsNil, gSet, dAct, dLc, dIlst, dItup, wipeR, dYes, dProp, dFld, dRng1, dIsC, Dc.rdLen, rdIx, Dc.rdAll, rdNe, rdEq, scalD, List.length_map, sFldD, dLst, dRng2, capS, lamL, rhoF, capSl, sSeq, sIf, sRet, sSet, sExpr, sNext, sNever, vSh, vOw, dK1, dIsi, dIsi2, isD, rdI0, rdI, List.getElem?_cons_zero, List.getElem?_cons_succ, Nat.reduceAdd, Nat.reduceSub, List.set_cons_zero, List.set_cons_succ, Option.some.injEq, exists_eq_left', exists_eq_left, true_implies, false_implies, and_true, true_and, reduceCtorEq, Bool.not_true, Bool.not_false, Bool.false_eq_true, implies_true]
    have hk : ∀ k, it = some k → k < K := fun k e => sh.kd k (e ▸ mem_of hi)
    refine ⟨by decide, W, K, m, ps, it, ok, hp, hk, rfl, fun qs hq => ⟨qs, _, rfl, ?_, hq.so, fun q hm => behW_lt ok hk hp.lt q ((hq.me q).mp hm)⟩⟩
    rw [takeS hi, led_snoc, ← hs.eq]
    exact hq
  · subst e
    rw [List.take_of_length_le (by simp)] at hs
    exact h ps hs
theorem rd_both_behind (h1 : G.S_pairs_known = S_pairs_known G.C) (h2 : G.S_pairs_next = S_pairs_next G.C) (h3 : G.S_pairs_reached = S_pairs_reached G.C) : Rd (S_both_behind G.C) (d_both_behind G) N_both_behind.length := by
  rintro _ Q ⟨V, W, K, m, ps, it, okv, ok, p, ne, hk, rfl, h⟩
  simp only [d_both_behind, N_both_behind, h1, h2, h3]
  simp only [rho0, List.map_cons, List.map_nil, List.length_cons, List.length_nil, List.cons_append, List.nil_append, List.replicate, Nat.sub_self, Nat.add_sub_cancel, dVar, dLook, dOp, dOpE, dMapB, dChain, dTst, dAnd, dOr, dNot, dAndV, dOrV, dNotV, dIf, dNil, dCons, bNil, bCons, dTup, dLst, dCB, dCall, sFor, dEnum, gTupD, gsCons, gsNil, gSet, dAct, dLc, dIlst, dItup, wipeR, dYes, dProp, dFld, dRng1, dIsC, Dc.rdLen, rdIx, Dc.rdAll, rdNe, rdEq, scalD, List.length_map, sFldD, dLst, dRng2, capS, lamL, rhoF, capSl, sSeq, sIf, sRet, sSet, sExpr, sNext, sNever, vSh, vOw, dK1, dIsi, dIsi2, isD, rdI0, rdI, List.getElem?_cons_zero, List.getElem?_cons_succ, Nat.reduceAdd, Nat.reduceSub, List.set_cons_zero, List.set_cons_succ, Option.some.injEq, exists_eq_left', exists_eq_left, true_implies, false_implies, and_true, true_and, reduceCtorEq, Bool.not_true, Bool.not_false, Bool.false_eq_true, implies_true]
  cases it with
  | some k => exact ⟨fun _ => ⟨V, W, K, ps, k, okv, ok, p, hk k rfl, rfl, h⟩, fun e => (nomatch e)⟩
  | none =>
    refine ⟨fun e => (nomatch e), fun _ => ?_⟩
    cases m with
    | true => exact ⟨fun _ => ⟨V, W, K, ps, okv, ok, p, ne, rfl, h⟩, fun e => by simp at e⟩
    | false => exact ⟨fun e => absurd (of_decide_eq_true e) (by decide), fun _ => ⟨V, W, K, ps, okv, ok, p, ne, rfl, h⟩⟩
theorem rd_both_by (h1 : G.S_both_behind = S_both_behind G.C) : Rd (S_both_by G.C) (d_both_by G) N_both_by.length := by
  rintro _ Q ⟨V, W, K, m, s, okv, ok, sh, rfl, h⟩
  simp only [d_both_by, N_both_by, h1]
  simp only [rho0, List.map_cons, List.map_nil, List.length_cons, List.length_nil, List.cons_append, List.nil_append, List.replicate, Nat.sub_self, Nat.add_sub_cancel, dVar, dLook, dOp, dOpE, dMapB, dChain, dTst, dAnd, dOr, dNot, dAndV, dOrV, dNotV, dIf, dNil, dCons, bNil, bCons, dTup, dLst, dCB, dCall, sFor, dEnum, gTupD, gsCons, gsNil, gSet, dAct, dLc, dIlst, dItup, wipeR, dYes, dProp, dFld, dRng1, dIsC, Dc.rdLen, rdIx, Dc.rdAll, rdNe, rdEq, scalD, List.length_map, sFldD, dLst, dRng2, capS, lamL, rhoF, capSl, sSeq, sIf, sRet, sSet, sExpr, sNext, sNever, vSh, vOw, dK1, dIsi, dIsi2, isD, rdI0, rdI, List.getElem?_cons_zero, List.getElem?_cons_succ, Nat.reduceAdd, Nat.reduceSub, List.set_cons_zero, List.set_cons_succ, Option.some.injEq, exists_eq_left', exists_eq_left, true_implies, false_implies, and_true, true_and, reduceCtorEq, Bool.not_true, Bool.not_false, Bool.false_eq_true, implies_true]
  refine ⟨fun i ρ => ∃ ps a, ρ = [.sh (wD G.C V), .sh (wD G.C W), .sh (shD s), .sh (modeD m), .sh (prsD ps), a] ∧ PairsIs ps (ledP V W K m (s.take i)) ∧ Prs V W ps ∧ ps ≠ [], ⟨[(0, 0)], _, rfl, ⟨by simp, fun q => by simp [ledP]⟩, ⟨by simp, fun p hp => by simp at hp; rw [hp]; exact ⟨okv.n1, ok.n1⟩⟩, by simp⟩, fun i x ρ hx ⟨ps, a, e, hs, hp, ne⟩ => ?_, fun ρ ⟨ps, a, e, hs, hp, _⟩ => ?_⟩
  · obtain ⟨it, hi, rfl⟩ := getMap hx
    subst e
    simp only [rho0, List.map_cons, List.map_nil, List.length_cons, List.length_nil, List.cons_append, List.nil_append, List.replicate, Nat.sub_self, Nat.add_sub_cancel, dVar, dLook, dOp, dOpE, dMapB, dChain, dTst, dAnd, dOr, dNot, dAndV, dOrV, dNotV, dIf, dNil, dCons, bNil, bCons, dTup, dLst, dCB, dCall, sFor, dEnum, gTupD, gsCons, gsNil, gSet, dAct, dLc, dIlst, dItup, wipeR, dYes, dProp, dFld, dRng1, dIsC, Dc.rdLen, rdIx, Dc.rdAll, rdNe, rdEq, scalD, List.length_map, sFldD, dLst, dRng2, capS, lamL, rhoF, capSl, sSeq, sIf, sRet, sSet, sExpr, sNext, sNever, vSh, vOw, dK1, dIsi, dIsi2, isD, rdI0, rdI, List.getElem?_cons_zero, List.getElem?_cons_succ, Nat.reduceAdd, Nat.reduceSub, List.set_cons_zero, List.set_cons_succ, Option.some.injEq, exists_eq_left', exists_eq_left, true_implies, false_implies, and_true, true_and, reduceCtorEq, Bool.not_true, Bool.not_false, Bool.false_eq_true, implies_true]
    have hk : ∀ k, it = some k → k < K := fun k e => sh.kd k (e ▸ mem_of hi)
    refine ⟨by decide, V, W, K, m, ps, it, okv, ok, hp, ne, hk, rfl, fun qs hq => ⟨qs, _, rfl, ?_, ⟨hq.nd, fun q hm => behP_lt okv ok hk hp.lt q ((hq.me q).mp hm)⟩, ?_⟩⟩
    · rw [takeS hi, ledP_snoc, ← hs.eq]
      exact hq
    · obtain ⟨q, hm⟩ := behP_ne (V := V) (W := W) (m := m) (it := it) ok.k1 (φ := fun q => q ∈ ps) (List.exists_mem_of_ne_nil ps ne)
      intro e
      have := (hq.me q).mpr hm
      rw [e] at this
      cases this
  · subst e
    rw [List.take_of_length_le (by simp)] at hs
    exact h ps hs
theorem ix_tup {α : Type} {f : α → D} {l : List α} {j : Nat} {a : α} {Q : D → Prop} (h : l[j]? = some a) (q : Q (f a)) : rdIx (.tup (l.map f)) (natD j) Q := ⟨_, atI_map h, q⟩
theorem go_at {W : Wt} {K p k : Nat} (ok : W.Ok K) (hp : p < W.mv.length) (hk : k < K) : ∃ r, W.mv[p]? = some r ∧ r[k]? = some (go W p k) := by
  obtain ⟨h1, _⟩ := ok.row _ (List.getElem_mem hp)
  refine ⟨W.mv[p], List.getElem?_eq_getElem hp, ?_⟩
  unfold go
  rw [getD_at hp, getD_at (by rw [h1]; exact hk)]
  exact List.getElem?_eq_getElem _
/-- w.moves[p][k] -/
theorem ix_go {W : Wt} {K p k : Nat} {Q : D → Prop} (ok : W.Ok K) (hp : p < W.mv.length) (hk : k < K) (q : Q (natD (go W p k))) : rdIx (mvD W) (natD p) fun z => rdIx z (natD k) Q := by
  obtain ⟨r, h1, h2⟩ := go_at ok hp hk
  exact ix_tup h1 (ix_tup h2 q)
theorem mono_from {m : Nat} : ∀ {ps : List Nat} {a : Nat}, ps.Pairwise (· < ·) → (∀ p ∈ ps, a ≤ p ∧ p < m) → a ≤ m → ps.length + a ≤ m
  | [], a, _, _, h => by simpa using h
  | p :: l, a, so, lt, _ => by
    obtain ⟨h1, h2⟩ := List.pairwise_cons.mp so
    obtain ⟨h3, h4⟩ := lt p (List.mem_cons_self ..)
    have := mono_from (m := m) (ps := l) (a := p + 1) h2 (fun q hq => ⟨h1 q hq, (lt q (List.mem_cons_of_mem _ hq)).2⟩) h4
    rw [List.length_cons]
    omega
theorem mono_nd {m : Nat} {ps : List Nat} (so : ps.Pairwise (· < ·)) (lt : ∀ p ∈ ps, p < m) : ps.length ≤ m := by
  have := mono_from (a := 0) so (fun p hp => ⟨Nat.zero_le _, lt p hp⟩) (Nat.zero_le _)
  omega
theorem nput_len {α : Type} [DecidableEq α] {ns : List α} {n : α} : (nput ns n).length ≤ ns.length + 1 := by
  unfold nput
  split <;> simp
theorem srt_end {ns : List Nat} {acc : List D} {φ : Nat → Prop} {Q : D → Prop} (nd : ns.Nodup) (hl : ns.length ≤ sizeLine) (me : ∀ q, q ∈ ns ↔ φ q) (h : ∀ qs, SetIs qs φ → Q (psD qs)) : rdSrtD [.dk (ns.map kI) acc] fun z => Dc.rdTup [z] Q := by
  obtain ⟨ok, qs, e, so, m⟩ := sort_nats nd hl
  show SortOk ((ns.map kI).map keyD) ∧ Q (.tup (((ns.map kI).map keyD).mergeSort leD))
  rw [keyD_map, e]
  exact ⟨ok, h qs ⟨so, fun q => (m q).trans (me q)⟩⟩
theorem rd_known_by (h1 : G.S_moves = S_moves G.C) : Rd (S_known_by G.C) (d_known_by G) N_known_by.length := by
  rintro _ Q ⟨W, K, ps, k, ok, p, hk, rfl, h⟩
  simp only [d_known_by, N_known_by, h1]
  simp only [rho0, List.map_cons, List.map_nil, List.length_cons, List.length_nil, List.cons_append, List.nil_append, List.replicate, Nat.sub_self, Nat.add_sub_cancel, dVar, dLook, dOp, dOpE, dMapB, dChain, dTst, dAnd, dOr, dNot, dAndV, dOrV, dNotV, dIf, dNil, dCons, bNil, bCons, dTup, dLst, dCB, dCall, sFor, dEnum, gTupD, gsCons, gsNil, gSet, dAct, dLc, dIlst, dItup, wipeR, dYes, dProp, dFld, dRng1, dIsC, Dc.rdAll, rdNe, rdEq, scalD, List.length_map, sFldD, dLst, dRng2, capS, lamL, rhoF, capSl, dDc, dDcN, sPutM, sPut, sdD, sdN, dDm, dMt, mdAppend, mdPop, dDk, sPar, sSeq, sIf, sRet, sSet, sExpr, sNext, sNever, vSh, vOw, dK1, dIsi, dIsi2, isD, rdI0, rdI, List.getElem?_cons_zero, List.getElem?_cons_succ, Nat.reduceAdd, Nat.reduceSub, List.set_cons_zero, List.set_cons_succ, Option.some.injEq, exists_eq_left', exists_eq_left, true_implies, false_implies, and_true, true_and, reduceCtorEq, Bool.not_true, Bool.not_false, Bool.false_eq_true, implies_true]
  have hl := mono_nd p.so p.lt
  have n6 := ok.n6
  refine ⟨?_, by rw [sizeLine_eq]; omega, fun i ks acc => ∃ ns : List Nat, ks = ns.map kI ∧ ns.Nodup ∧ ns.length ≤ i ∧ ∀ q, q ∈ ns ↔ ∃ p ∈ ps.take i, go W p k = q, ⟨[], rfl, by simp, by simp, by simp⟩, fun i x ks acc hx ⟨ns, e, nd, le, me⟩ => ?_, fun ks acc ⟨ns, e, nd, le, me⟩ => ?_⟩
  · intro j hj d
    simp only [List.mem_cons, List.not_mem_nil, or_false] at hj
    subst hj
    simp
  · obtain ⟨n, hn, rfl⟩ := getMap hx
    subst e
    refine ⟨by decide, ⟨_, _, rfl⟩, W, rfl, ix_go ok (p.lt n (mem_of hn)) hk ⟨_, rfl, ?_⟩⟩
    refine ⟨nput ns (go W n k), dputK_map, nput_nd nd, by have := nput_len (ns := ns) (n := go W n k); omega, fun q => ?_⟩
    rw [nput_mem, me q, takeS hn]
    constructor
    · rintro (⟨p, hp, e⟩ | rfl)
      · exact ⟨p, by simp [hp], e⟩
      · exact ⟨n, by simp, rfl⟩
    · rintro ⟨p, hp, e⟩
      rcases List.mem_append.mp hp with z | z
      · exact .inl ⟨p, z, e⟩
      · simp at z; subst z; exact .inr e.symm
  · subst e
    rw [List.take_of_length_le (Nat.le_refl _)] at me
    exact srt_end nd (by rw [sizeLine_eq]; omega) me h
theorem rd_pair_behind (h1 : G.S_moves = S_moves G.C) : Rd (S_pair_behind G.C) (d_pair_behind G) N_pair_behind.length := by
  rintro _ Q ⟨V, W, K, p, k, okv, ok, p1, p2, hk, rfl, h⟩
  simp only [d_pair_behind, N_pair_behind, h1]
  simp only [rho0, List.map_cons, List.map_nil, List.length_cons, List.length_nil, List.cons_append, List.nil_append, List.replicate, Nat.sub_self, Nat.add_sub_cancel, dVar, dLook, dOp, dOpE, dMapB, dChain, dTst, dAnd, dOr, dNot, dAndV, dOrV, dNotV, dIf, dNil, dCons, bNil, bCons, dTup, dLst, dCB, dCall, sFor, dEnum, gTupD, gsCons, gsNil, gSet, dAct, dLc, dIlst, dItup, wipeR, dYes, dProp, dFld, dRng1, dIsC, Dc.rdAll, rdNe, rdEq, scalD, List.length_map, sFldD, dLst, dRng2, capS, lamL, rhoF, capSl, dDc, dDcN, sPutM, sPut, sdD, sdN, dDm, dMt, mdAppend, mdPop, dDk, sPar, sSeq, sIf, sRet, sSet, sExpr, sNext, sNever, vSh, vOw, dK1, dIsi, dIsi2, isD, rdI0, rdI, List.getElem?_cons_zero, List.getElem?_cons_succ, Nat.reduceAdd, Nat.reduceSub, List.set_cons_zero, List.set_cons_succ, Option.some.injEq, exists_eq_left', exists_eq_left, true_implies, false_implies, and_true, true_and, reduceCtorEq, Bool.not_true, Bool.not_false, Bool.false_eq_true, implies_true]
  refine ⟨⟨_, _, rfl⟩, V, rfl, natD p.1, rfl, ?_⟩
  refine ix_go okv p1 hk ⟨⟨_, _, rfl⟩, W, rfl, natD p.2, rfl, ?_⟩
  exact ix_go ok p2 hk ⟨by decide, h⟩
theorem wo_at {W : Wt} {K p : Nat} (ok : W.Ok K) (hp : p < W.mv.length) : W.wd[p]? = some (wo W p) := by
  have h : p < W.wd.length := by rw [ok.wl]; exact hp
  unfold wo
  rw [getD_at h]
  exact List.getElem?_eq_getElem h
theorem nd_len {m : Nat} {l : List Nat} (nd : l.Nodup) (lt : ∀ p ∈ l, p < m) : l.length ≤ m := by
  let le : Nat → Nat → Bool := fun a b => decide (a ≤ b)
  have h1 : (l.mergeSort le).Pairwise fun a b => le a b = true := List.pairwise_mergeSort (fun a b c h1 h2 => by simp [le] at *; omega) (fun a b => by simp [le]; omega) l
  have h2 : (l.mergeSort le).Nodup := (List.mergeSort_perm l le).nodup_iff.mpr nd
  have h3 : (l.mergeSort le).Pairwise (· < ·) := (h1.and h2).imp fun {a b} ⟨x, y⟩ => by simp [le] at x; omega
  have := mono_nd h3 fun p hp => lt p (List.mem_mergeSort.mp hp)
  rwa [List.length_mergeSort] at this
theorem prs_len {V W : Wt} {K : Nat} {l : List (Nat × Nat)} (okv : V.Ok K) (ok : W.Ok K) (h : Prs V W l) : l.length ≤ 36 := by
  have a := okv.n6
  have b := ok.n6
  have nd : (l.map fun p => p.1 * 6 + p.2).Nodup := by
    rw [List.Nodup, List.pairwise_map]
    refine (List.Pairwise.imp_of_mem (fun {p q} hp hq ne e => ?_) h.nd)
    have := h.lt p hp
    have := h.lt q hq
    exact ne (Prod.ext (by omega) (by omega))
  have := nd_len (m := 36) nd fun x hx => by
    obtain ⟨p, hp, rfl⟩ := List.mem_map.mp hx
    have := h.lt p hp
    omega
  simpa using this
theorem rd_words_kept (h1 : G.S_words = S_words G.C) : Rd (S_words_kept G.C) (d_words_kept G) N_words_kept.length := by
  rintro _ Q ⟨V, W, K, ps, okv, ok, p, rfl, h⟩
  simp only [d_words_kept, N_words_kept, h1]
  simp only [rho0, List.map_cons, List.map_nil, List.length_cons, List.length_nil, List.cons_append, List.nil_append, List.replicate, Nat.sub_self, Nat.add_sub_cancel, dVar, dLook, dOp, dOpE, dMapB, dChain, dTst, dAnd, dOr, dNot, dAndV, dOrV, dNotV, dIf, dNil, dCons, bNil, bCons, dTup, dLst, dCB, dCall, sFor, dEnum, gTupD, gsCons, gsNil, gSet, dAct, dLc, dIlst, dItup, wipeR, dYes, dProp, dFld, dRng1, dIsC, Dc.rdAll, rdNe, rdEq, scalD, List.length_map, sFldD, dLst, dRng2, capS, lamL, rhoF, capSl, dDc, dDcN, sPutM, sPut, sdD, sdN, dDm, dMt, mdAppend, mdPop, dDk, sPar, sSeq, sIf, sRet, sSet, sExpr, sNext, sNever, vSh, vOw, dK1, dIsi, dIsi2, isD, rdI0, rdI, List.getElem?_cons_zero, List.getElem?_cons_succ, Nat.reduceAdd, Nat.reduceSub, List.set_cons_zero, List.set_cons_succ, Option.some.injEq, exists_eq_left', exists_eq_left, true_implies, false_implies, and_true, true_and, reduceCtorEq, Bool.not_true, Bool.not_false, Bool.false_eq_true, implies_true]
  have hl := prs_len okv ok p
  refine ⟨?_, by rw [sizeLine_eq]; omega, fun i ks acc => ∃ ns : List Nat, ks = ns.map kI ∧ ns.Nodup ∧ ns.length ≤ i ∧ ∀ q, q ∈ ns ↔ ∃ p ∈ ps.take i, wo W p.2 = q, ⟨[], rfl, by simp, by simp, by simp⟩, fun i x ks acc hx ⟨ns, e, nd, le, me⟩ => ?_, fun ks acc ⟨ns, e, nd, le, me⟩ => ?_⟩
  · intro j hj d
    simp only [List.mem_cons, List.not_mem_nil, or_false] at hj
    subst hj
    simp
  · obtain ⟨n, hn, rfl⟩ := getMap hx
    subst e
    refine ⟨by decide, ⟨_, _, rfl⟩, W, rfl, natD n.2, rfl, ix_tup (wo_at ok (p.lt n (mem_of hn)).2) ⟨_, rfl, ?_⟩⟩
    refine ⟨nput ns (wo W n.2), dputK_map, nput_nd nd, by have := nput_len (ns := ns) (n := wo W n.2); omega, fun q => ?_⟩
    rw [nput_mem, me q, takeS hn]
    constructor
    · rintro (⟨p, hp, e⟩ | rfl)
      · exact ⟨p, by simp [hp], e⟩
      · exact ⟨n, by simp, rfl⟩
    · rintro ⟨p, hp, e⟩
      rcases List.mem_append.mp hp with z | z
      · exact .inl ⟨p, z, e⟩
      · simp at z; subst z; exact .inr e.symm
  · subst e
    rw [List.take_of_length_le (Nat.le_refl _)] at me
    exact srt_end nd (by rw [sizeLine_eq]; omega) me h
theorem ledP_lt {V W : Wt} {K : Nat} {m : Bool} (okv : V.Ok K) (ok : W.Ok K) {s : List (Option Nat)} (sh : ∀ k, some k ∈ s → k < K) : ∀ q, ledP V W K m s q → q.1 < V.mv.length ∧ q.2 < W.mv.length := by
  have gen : ∀ (s : List (Option Nat)) (φ : Nat × Nat → Prop), (∀ k, some k ∈ s → k < K) → (∀ p, φ p → p.1 < V.mv.length ∧ p.2 < W.mv.length) → ∀ q, s.foldl (behP V W K m) φ q → q.1 < V.mv.length ∧ q.2 < W.mv.length := by
    intro s
    induction s with
    | nil => exact fun φ _ h => h
    | cons it s ih => exact fun φ hs h => ih _ (fun k hk => hs k (List.mem_cons_of_mem _ hk)) (behP_lt okv ok (fun k e => hs k (by rw [e]; exact List.mem_cons_self ..)) h)
  exact gen s _ sh fun p hp => by rw [hp]; exact ⟨okv.n1, ok.n1⟩
theorem rd_leak_by (h1 : G.S_words_kept = S_words_kept G.C) (h2 : G.S_both_by = S_both_by G.C) : Rd (S_leak_by G.C) (d_leak_by G) N_leak_by.length := by
  rintro _ Q ⟨V, W, K, m, s, okv, ok, sh, rfl, h⟩
  simp only [d_leak_by, N_leak_by, h1, h2]
  simp only [rho0, List.map_cons, List.map_nil, List.length_cons, List.length_nil, List.cons_append, List.nil_append, List.replicate, Nat.sub_self, Nat.add_sub_cancel, dVar, dLook, dOp, dOpE, dMapB, dChain, dTst, dAnd, dOr, dNot, dAndV, dOrV, dNotV, dIf, dNil, dCons, bNil, bCons, dTup, dLst, dCB, dCall, sFor, dEnum, gTupD, gsCons, gsNil, gSet, dAct, dLc, dIlst, dItup, wipeR, dYes, dProp, dFld, dRng1, dIsC, Dc.rdAll, rdNe, rdEq, scalD, List.length_map, sFldD, dLst, dRng2, capS, lamL, rhoF, capSl, dDc, dDcN, sPutM, sPut, sdD, sdN, dDm, dMt, mdAppend, mdPop, dDk, sPar, sSeq, sIf, sRet, sSet, sExpr, sNext, sNever, vSh, vOw, dK1, dIsi, dIsi2, isD, rdI0, rdI, List.getElem?_cons_zero, List.getElem?_cons_succ, Nat.reduceAdd, Nat.reduceSub, List.set_cons_zero, List.set_cons_succ, Option.some.injEq, exists_eq_left', exists_eq_left, true_implies, false_implies, and_true, true_and, reduceCtorEq, Bool.not_true, Bool.not_false, Bool.false_eq_true, implies_true]
  refine ⟨V, W, K, m, s, okv, ok, sh, rfl, fun qs hq => ⟨V, W, K, qs, okv, ok, ⟨hq.nd, fun q hm => ledP_lt okv ok sh.kd q ((hq.me q).mp hm)⟩, rfl, fun ws hw => h ws ⟨hw.so, fun x => (hw.me x).trans ?_⟩⟩⟩
  exact ⟨fun ⟨p, hp, e⟩ => ⟨p, (hq.me p).mp hp, e⟩, fun ⟨p, hp, e⟩ => ⟨p, (hq.me p).mpr hp, e⟩⟩
end
end K33

namespace K33
open PySem PySem.Spec PyProof.Rows L2 Dc
/-! data lemmas: worklists, merged keys, keys that are pairs -/
/-- a search's state: what was found, what is left -/
structure Wl {α : Type} (r : α → α → Prop) (φ : α → Prop) (ns ls : List α) : Prop where
  nd : ns.Nodup
  st : ∀ q, φ q → q ∈ ns
  re : ∀ q ∈ ns, Star r φ q
  su : ∀ q ∈ ls, q ∈ ns
  cl : ∀ q ∈ ns, q ∉ ls → ∀ q', r q q' → q' ∈ ns
/-- while one is gone on from -/
structure Wp {α : Type} (r : α → α → Prop) (φ : α → Prop) (p : α) (dn : List α) (ns ls : List α) : Prop where
  nd : ns.Nodup
  pn : p ∈ ns
  st : ∀ q, φ q → q ∈ ns
  re : ∀ q ∈ ns, Star r φ q
  su : ∀ q ∈ ls, q ∈ ns
  dn : ∀ q ∈ dn, q ∈ ns
  cl : ∀ q ∈ ns, q ∉ ls → q ≠ p → ∀ q', r q q' → q' ∈ ns
theorem Wl.open {α : Type} {r : α → α → Prop} {φ : α → Prop} {ns ls : List α} {p : α} (h : Wl r φ ns ls) (hp : ls[ls.length - 1]? = some p) : Wp r φ p [] ns ls.dropLast := by
  have hm := mem_of hp
  have hl : ls.dropLast ++ [p] = ls := by
    have ne : ls ≠ [] := List.ne_nil_of_mem hm
    have e : ls.getLast ne = p := by
      rw [List.getLast_eq_getElem]
      have := List.getElem?_eq_some_iff.mp hp
      exact this.2
    rw [← e]
    exact List.dropLast_concat_getLast ne
  refine ⟨h.nd, h.su _ hm, h.st, h.re, fun q hq => h.su q ?_, by simp, fun q hq nq np => h.cl q hq ?_⟩
  · rw [← hl]; exact List.mem_append_left _ hq
  · intro z
    rw [← hl] at z
    rcases List.mem_append.mp z with z | z
    · exact nq z
    · simp at z; exact np z
theorem Wp.old {α : Type} {r : α → α → Prop} {φ : α → Prop} {ns ls dn : List α} {p q : α} (h : Wp r φ p dn ns ls) (hq : q ∈ ns) : Wp r φ p (dn ++ [q]) ns ls :=
  ⟨h.nd, h.pn, h.st, h.re, h.su, fun x hx => (List.mem_append.mp hx).elim (h.dn x) fun z => by simp at z; rw [z]; exact hq, h.cl⟩
theorem Wp.new {α : Type} {r : α → α → Prop} {φ : α → Prop} {ns ls dn : List α} {p q : α} (h : Wp r φ p dn ns ls) (hq : q ∉ ns) (hr : r p q) : Wp r φ p (dn ++ [q]) (ns ++ [q]) (ls ++ [q]) := by
  refine ⟨?_, List.mem_append_left _ h.pn, fun x hx => List.mem_append_left _ (h.st x hx), fun x hx => ?_, fun x hx => ?_, fun x hx => ?_, fun x hx nx np y hy => ?_⟩
  · rw [List.nodup_append]
    exact ⟨h.nd, by simp, fun a ha b hb => by simp at hb; subst hb; exact fun z => hq (z ▸ ha)⟩
  · rcases List.mem_append.mp hx with z | z
    · exact h.re x z
    · simp at z; subst z; exact .step (h.re p h.pn) hr
  · rcases List.mem_append.mp hx with z | z
    · exact List.mem_append_left _ (h.su x z)
    · exact List.mem_append_right _ z
  · rcases List.mem_append.mp hx with z | z
    · exact List.mem_append_left _ (h.dn x z)
    · exact List.mem_append_right _ z
  · rcases List.mem_append.mp hx with z | z
    · exact List.mem_append_left _ (h.cl x z (fun w => nx (List.mem_append_left _ w)) np y hy)
    · exact absurd (List.mem_append_right _ z) nx
theorem Wp.close {α : Type} {r : α → α → Prop} {φ : α → Prop} {ns ls dn : List α} {p : α} (h : Wp r φ p dn ns ls) (all : ∀ q, r p q → q ∈ dn) : Wl r φ ns ls :=
  ⟨h.nd, h.st, h.re, h.su, fun q hq nq y hy => by
    by_cases e : q = p
    · subst e; exact h.dn y (all y hy)
    · exact h.cl q hq nq e y hy⟩
theorem Wl.fin {α : Type} {r : α → α → Prop} {φ : α → Prop} {ns : List α} (h : Wl r φ ns []) (q : α) : q ∈ ns ↔ Star r φ q := by
  refine ⟨h.re q, fun s => ?_⟩
  induction s with
  | base hp => exact h.st _ hp
  | step _ hr ih => exact h.cl _ ih (by simp) _ hr
theorem Wl.begin {α : Type} {r : α → α → Prop} {ns : List α} (nd : ns.Nodup) : Wl r (· ∈ ns) ns ns := ⟨nd, fun _ h => h, fun _ h => .base h, fun _ h => h, fun _ h n => absurd h n⟩
/-! keys merged -/
def nputs {α : Type} [DecidableEq α] (ns ms : List α) : List α := ms.foldl nput ns
theorem nputs_mem {α : Type} [DecidableEq α] {ms : List α} : ∀ {ns : List α} {q : α}, q ∈ nputs ns ms ↔ q ∈ ns ∨ q ∈ ms := by
  induction ms with
  | nil => intro ns q; simp [nputs]
  | cons m ms ih =>
    intro ns q
    show q ∈ nputs (nput ns m) ms ↔ _
    rw [ih, nput_mem, List.mem_cons, or_assoc]
theorem nputs_nd {α : Type} [DecidableEq α] {ms : List α} : ∀ {ns : List α}, ns.Nodup → (nputs ns ms).Nodup := by
  induction ms with
  | nil => intro ns h; exact h
  | cons m ms ih => intro ns h; exact ih (nput_nd h)
theorem dputX_len {κ α : Type} [DecidableEq κ] {ks : List κ} {xs : List α} {k : κ} {y : α} (h : ks.length = xs.length) : (dputK ks k).length = (dputX ks xs k y).length := by
  unfold dputK dputX
  by_cases e : hasK ks k = true
  · rw [if_pos e, if_pos e, List.length_zipWith, h, Nat.min_self]
  · rw [if_neg e, if_neg e, List.length_append, List.length_append, h]; rfl
theorem mergeX_map {ms : List Nat} : ∀ {zs : List D} {ns : List Nat} {xs : List D}, ms.length = zs.length → ns.length = xs.length → (dmergeX (ns.map kI) xs (ms.map kI) zs).1 = (nputs ns ms).map kI ∧ (nputs ns ms).length = (dmergeX (ns.map kI) xs (ms.map kI) zs).2.length := by
  induction ms with
  | nil => intro zs ns xs _ h; exact ⟨rfl, h⟩
  | cons m ms ih =>
    intro zs ns xs h h2
    cases zs with
    | nil => simp at h
    | cons z zs =>
      have hh : (nput ns m).length = (dputX (ns.map kI) xs (.inl (m : Int)) z).length := by
        rw [← dputX_len (by rw [List.length_map]; exact h2), dputK_map, List.length_map]
      have := ih (zs := zs) (ns := nput ns m) (xs := dputX (ns.map kI) xs (.inl (m : Int)) z) (by simpa using h) hh
      rw [← dputK_map] at this
      exact this
/-! keys that are pairs -/
abbrev kP (p : Nat × Nat) : NestedKey := .tup [.num p.1, .num p.2]
theorem toNK_pr (p : Nat × Nat) : toNK (prD p) = some (kP p) := rfl
theorem nkey_pr (p : Nat × Nat) : nkey (prD p) = kP p := by unfold nkey; rw [toNK_pr]; rfl
theorem kP_inj {p q : Nat × Nat} : kP p = kP q ↔ p = q := by
  constructor
  · intro h
    have h1 := NestedKey.tup.inj h
    simp only [List.cons.injEq, NestedKey.num.injEq, and_true] at h1
    exact Prod.ext (by omega) (by omega)
  · rintro rfl; rfl
theorem depth_pr (p : Nat × Nat) : (kP p).depth ≤ 8 := by
  have : (kP p).depth = (kP (0, 0)).depth := rfl
  rw [this]
  decide
theorem isTup_pr (p : Nat × Nat) : isTupD (prD p) = true := rfl
theorem hasN_map {l : List (Nat × Nat)} {p : Nat × Nat} : hasN (l.map prD) (kP p) = decide (p ∈ l) := by
  unfold hasN
  rw [List.any_map]
  induction l with
  | nil => simp
  | cons a l ih =>
    rw [List.any_cons, ih]
    show (decide (kP a = kP p) || _) = _
    have e : decide (kP a = kP p) = decide (p = a) := decide_eq_decide.mpr ((kP_inj (p := a) (q := p)).trans eq_comm)
    rw [e]
    by_cases h1 : p = a <;> by_cases h2 : p ∈ l <;> simp [h1, h2]
theorem dputN_map {l : List (Nat × Nat)} {p : Nat × Nat} : dputN (l.map prD) (kP p) (prD p) = (nput l p).map prD := by
  unfold dputN nput
  rw [hasN_map]
  by_cases h : p ∈ l <;> simp [h]
theorem dputM_len {l : List (Nat × Nat)} {xs : List D} {p : Nat × Nat} {z : D} (h : l.length = xs.length) : (nput l p).length = (dputM (l.map prD) xs (kP p) z).length := by
  unfold dputM nput
  rw [hasN_map]
  by_cases e : p ∈ l
  · simp [e, h]
  · simp [e, h]
theorem mergeN_map {ms : List (Nat × Nat)} : ∀ {zs : List D} {ns : List (Nat × Nat)} {xs : List D}, ms.length = zs.length → ns.length = xs.length → (dmergeN (ns.map prD) xs (ms.map prD) zs).1 = (nputs ns ms).map prD ∧ (nputs ns ms).length = (dmergeN (ns.map prD) xs (ms.map prD) zs).2.length := by
  induction ms with
  | nil => intro zs ns xs _ h; exact ⟨rfl, h⟩
  | cons m ms ih =>
    intro zs ns xs h h2
    cases zs with
    | nil => simp at h
    | cons z zs =>
      have := ih (zs := zs) (ns := nput ns m) (xs := dputM (ns.map prD) xs (kP m) z) (by simpa using h) (dputM_len h2)
      rw [← dputN_map] at this
      exact this
/-- small pairs have hashes of their own -/
def hp (a b : Int) : Int := reduceHash (PySem.Builtin.Tuple.tupleHashOf [hashInt a, hashInt b])
def hs6 : List Int := (List.range 36).map fun n => hp ((n / 6 : Nat) : Int) ((n % 6 : Nat) : Int)
def hs6v : List Int := [-8458139203682520985, -1950498447580522560, 7204814214171964562, -4734289103435588629, 1773351652666409796,  -3119722376306286570, -5164621852614943976, 8389048192121911274, -3550055125485641917, -1440771752368011620,  -6333845781340707986, 173794974761290439, 4685526799349444076, 6794810172467074373, 1901736143494378007,  8409376899596376432, 3516302870623680066, -8422800446983873125, 2248468952609198383, 8756109708711196808,  3863035679738500442, 5972319052856130739, 1079245023883434373, 7586885779985432798, -6348126469135965181,  159514286966033244, -9131917124991031250, -2624276368889032825, 3883364387212965600, -1009709641759730766,  -3054609118068388172, 3453031638033610253, -5838399773923454241, 669240982178544184, -4223833046794152182,  2283807709307846243]
theorem hs6_eq : hs6 = hs6v := by decide +kernel
theorem hs6_nd : hs6v.Nodup := by decide +kernel
theorem hash_pr (w : World) (p : Nat × Nat) : (kP p).hash w = hp (p.1 : Int) (p.2 : Int) := by
  simp only [kP, NestedKey.hash, NestedKey.hashes, hp]
theorem hs6_at {a b : Nat} (ha : a < 6) (hb : b < 6) : hs6[a * 6 + b]? = some (hp (a : Int) (b : Int)) := by
  unfold hs6
  rw [List.getElem?_map, List.getElem?_range (by omega)]
  have e1 : (a * 6 + b) / 6 = a := by omega
  have e2 : (a * 6 + b) % 6 = b := by omega
  show some (hp (((a * 6 + b) / 6 : Nat) : Int) (((a * 6 + b) % 6 : Nat) : Int)) = _
  rw [e1, e2]
theorem nodup_at {α : Type} {l : List α} (h : l.Nodup) {i j : Nat} {x : α} (hi : l[i]? = some x) (hj : l[j]? = some x) : i = j := by
  obtain ⟨a, e1⟩ := List.getElem?_eq_some_iff.mp hi
  obtain ⟨b, e2⟩ := List.getElem?_eq_some_iff.mp hj
  rcases Nat.lt_trichotomy i j with z | z | z
  · exact absurd (e1.trans e2.symm) (List.pairwise_iff_getElem.mp h i j a b z)
  · exact z
  · exact absurd (e2.trans e1.symm) (List.pairwise_iff_getElem.mp h j i b a z)
theorem hash_inj (w : World) {p q : Nat × Nat} (h1 : p.1 < 6 ∧ p.2 < 6) (h2 : q.1 < 6 ∧ q.2 < 6) (e : (kP p).hash w = (kP q).hash w) : p = q := by
  rw [hash_pr, hash_pr] at e
  have e1 := hs6_at h1.1 h1.2
  have e2 := hs6_at h2.1 h2.2
  rw [hs6_eq] at e1 e2
  rw [e] at e1
  have := nodup_at hs6_nd e1 e2
  exact Prod.ext (by omega) (by omega)
theorem nd_map {α β : Type} {f : α → β} {l : List α} (nd : l.Nodup) (h : ∀ a ∈ l, ∀ b ∈ l, f a = f b → a = b) : (l.map f).Nodup := by
  induction l with
  | nil => exact List.nodup_nil
  | cons a l ih =>
    obtain ⟨h1, h2⟩ := List.nodup_cons.mp nd
    rw [List.map_cons]
    refine List.nodup_cons.mpr ⟨fun z => ?_, ih h2 fun p hp q hq => h p (List.mem_cons_of_mem _ hp) q (List.mem_cons_of_mem _ hq)⟩
    obtain ⟨q, hq, e⟩ := List.mem_map.mp z
    exact h1 (h q (List.mem_cons_of_mem _ hq) a (List.mem_cons_self ..) e ▸ hq)
theorem hash_nd (w : World) {l : List (Nat × Nat)} (nd : l.Nodup) (h : ∀ p ∈ l, p.1 < 6 ∧ p.2 < 6) : ((l.map prD).map fun m => (nkey m).hash w).Nodup := by
  refine nd_map (nd_map nd fun a _ b _ e => ?_) fun a ha b hb e => ?_
  · have e2 := congrArg nkey e
    rw [nkey_pr, nkey_pr] at e2
    have h1 := NestedKey.tup.inj e2
    simp only [List.cons.injEq, NestedKey.num.injEq, and_true] at h1
    exact Prod.ext (by omega) (by omega)
  · obtain ⟨p, hp, rfl⟩ := List.mem_map.mp ha
    obtain ⟨q, hq, rfl⟩ := List.mem_map.mp hb
    rw [nkey_pr, nkey_pr] at e
    rw [hash_inj w (h p hp) (h q hq) e]
/-! lists against the empty one -/
theorem list_nil_eqv {α : Type} {f : α → PyData} (l : List α) : PyData.eqv (.list (l.map f)) (.list []) = decide (l = []) := by
  cases l with
  | nil => rfl
  | cons a l => rfl
theorem ne_nil {α : Type} {f : α → D} {g : α → PyData} (h : ∀ a, toPy (f a) = some (g a)) {l : List α} (sh : SeqAt.shaped (.list (l.map g)) = true) {Q : D → Prop} (q : Q (.bl (!decide (l = [])))) : rdNeD (.lst (l.map f)) (.lst []) Q := by
  refine ⟨.list (l.map g), .list [], ?_, rfl, sh, rfl, ?_⟩
  · show (toPys (l.map f)).map PyData.list = _
    rw [toPys_map f g h l]
    rfl
  · rw [list_nil_eqv]; exact q
end K33

namespace K33
open PySem PySem.Spec PyProof.Rows L2 Dc
variable [TabsT]
section
variable {P : Program} {KV : KW} (G : Gc P KV)
theorem rng_len {n : Nat} : (rngD 0 (n : Int).toNat).length = n := by simp [rngD]
theorem rng_at {n i : Nat} {x : D} (h : (rngD 0 (n : Int).toNat)[i]? = some x) : i < n ∧ x = natD i := by
  have hi := (List.getElem?_eq_some_iff.mp h).1
  rw [rng_len] at hi
  refine ⟨hi, ?_⟩
  unfold rngD at h
  rw [List.getElem?_map, List.getElem?_range (by simpa using hi)] at h
  have := Option.some.inj h
  rw [← this]
  simp
theorem row_mem {W : Wt} {K p : Nat} {r : List Nat} (ok : W.Ok K) (hr : W.mv[p]? = some r) {q : Nat} : q ∈ r ↔ stepW W K p q := by
  have hp := (List.getElem?_eq_some_iff.mp hr).1
  have e : W.mv.getD p [] = r := by rw [List.getD_eq_getElem?_getD, hr]; rfl
  have hl := (ok.row r (mem_of hr)).1
  constructor
  · intro h
    obtain ⟨k, hk, hq⟩ := List.getElem_of_mem h
    refine ⟨k, by omega, ?_⟩
    unfold go
    rw [e, getD_at hk, hq]
  · rintro ⟨k, hk, e2⟩
    unfold go at e2
    rw [e, getD_at (by omega)] at e2
    rw [← e2]
    exact List.getElem_mem _
theorem okw1 {ρ : Rho} {j : Nat} (h : ∀ d, ρ[j]? ≠ some (.ow d) ∧ ∀ a, ρ[j]? ≠ some (.my a d)) : OkW ρ [j] := by
  intro i hi d
  simp only [List.mem_cons, List.not_mem_nil, or_false] at hi
  subst hi
  exact h d
theorem places_len {W : Wt} {K : Nat} (ok : W.Ok K) {l : List Nat} (nd : l.Nodup) (lt : ∀ p ∈ l, p < W.mv.length) : l.length ≤ 6 := Nat.le_trans (nd_len nd lt) ok.n6
theorem rd_next_by (h1 : G.S_moves = S_moves G.C) : Rd (S_next_by G.C) (d_next_by G) N_next_by.length := by
  rintro _ Q ⟨W, K, ps, ok, p, rfl, h⟩
  simp only [d_next_by, N_next_by, h1]
  simp only [rho0, List.map_cons, List.map_nil, List.length_cons, List.length_nil, List.cons_append, List.nil_append, List.replicate, Nat.sub_self, Nat.add_sub_cancel, dVar, dLook, dOp, dOpE, dMapB, dChain, dTst, dAnd, dOr, dNot, dAndV, dOrV, dNotV, dIf, dNil, dCons, bNil, bCons, dTup, dLst, dCB, dCall, sFor, dEnum, gTupD, gsCons, gsNil, gSet, dAct, dLc, dIlst, dItup, wipeR, dYes, dProp, dFld, dRng1, dIsC, Dc.rdAll, rdNe, rdEq, scalD, List.length_map, sFldD, dLst, dRng2, capS, lamL, rhoF, capSl, dDc, dDcN, sPutM, sPut, sdD, sdN, dDm, dMt, mdAppend, mdPop, dDk, sPar, sSeq, sIf, sRet, sSet, sExpr, sNext, sNever, vSh, vOw, dK1, dIsi, dIsi2, isD, rdI0, rdI, List.getElem?_cons_zero, List.getElem?_cons_succ, Nat.reduceAdd, Nat.reduceSub, List.set_cons_zero, List.set_cons_succ, Option.some.injEq, exists_eq_left', exists_eq_left, true_implies, false_implies, and_true, true_and, reduceCtorEq, Bool.not_true, Bool.not_false, Bool.false_eq_true, implies_true]
  refine ⟨fun i ρ => ∃ ns acc a, ρ = [.sh (wD G.C W), .sh (psD ps), .ow (.dk (ns.map kI) acc), a, .no] ∧ ns.length = acc.length ∧ ns.Nodup ∧ ∀ q, q ∈ ns ↔ ∃ p ∈ ps.take i, stepW W K p q, ⟨[], [], _, rfl, rfl, by simp, by simp⟩, fun i x ρ hx ⟨ns, acc, a, e, hl, nd, me⟩ => ?_, fun ρ ⟨ns, acc, a, e, hl, nd, me⟩ => ?_⟩
  · obtain ⟨n, hn, rfl⟩ := getMap hx
    subst e
    simp only [rho0, List.map_cons, List.map_nil, List.length_cons, List.length_nil, List.cons_append, List.nil_append, List.replicate, Nat.sub_self, Nat.add_sub_cancel, dVar, dLook, dOp, dOpE, dMapB, dChain, dTst, dAnd, dOr, dNot, dAndV, dOrV, dNotV, dIf, dNil, dCons, bNil, bCons, dTup, dLst, dCB, dCall, sFor, dEnum, gTupD, gsCons, gsNil, gSet, dAct, dLc, dIlst, dItup, wipeR, dYes, dProp, dFld, dRng1, dIsC, Dc.rdAll, rdNe, rdEq, scalD, List.length_map, sFldD, dLst, dRng2, capS, lamL, rhoF, capSl, dDc, dDcN, sPutM, sPut, sdD, sdN, dDm, dMt, mdAppend, mdPop, dDk, sPar, sSeq, sIf, sRet, sSet, sExpr, sNext, sNever, vSh, vOw, dK1, dIsi, dIsi2, isD, rdI0, rdI, List.getElem?_cons_zero, List.getElem?_cons_succ, Nat.reduceAdd, Nat.reduceSub, List.set_cons_zero, List.set_cons_succ, Option.some.injEq, exists_eq_left', exists_eq_left, true_implies, false_implies, and_true, true_and, reduceCtorEq, Bool.not_true, Bool.not_false, Bool.false_eq_true, implies_true]
    have hp := p.lt n (mem_of hn)
    refine ⟨by decide, ⟨_, _, rfl⟩, W, rfl, ?_⟩
    obtain ⟨r, hr⟩ : ∃ r, W.mv[n]? = some r := ⟨_, List.getElem?_eq_getElem hp⟩
    have hrr := ok.row r (mem_of hr)
    have k4 := ok.k4
    refine ix_tup hr ⟨okw1 (by simp), by rw [sizeLine_eq, List.length_map]; omega, fun j ks acc => ∃ ms, ks = ms.map kI ∧ ms.length = acc.length ∧ ms.Nodup ∧ ∀ q, q ∈ ms ↔ q ∈ r.take j, ⟨[], rfl, rfl, by simp, by simp⟩, fun j x ks acc hx ⟨ms, e, el, nd, me⟩ => ?_, fun ks zs ⟨ms, e, el, nd2, me2⟩ => ?_⟩
    · obtain ⟨q, hq, rfl⟩ := getMap hx
      subst e
      refine ⟨by decide, _, rfl, nput ms q, dputK_map, ?_, nput_nd nd, fun x => ?_⟩
      · rw [← dputX_len (by rw [List.length_map]; exact el), dputK_map, List.length_map]
      · rw [nput_mem, me x, takeS hq, List.mem_append, List.mem_singleton]
    · subst e
      rw [List.length_map, List.take_length] at me2
      have l1 := places_len ok nd (fun q hq => by obtain ⟨p', hp', k, hk, e⟩ := (me q).mp hq; rw [← e]; exact go_lt ok (p.lt _ (List.mem_of_mem_take hp')) hk)
      have l2 := places_len ok nd2 (fun q hq => hrr.2 q ((me2 q).mp hq))
      obtain ⟨m1, m2⟩ := mergeX_map (ms := ms) (zs := zs) (ns := ns) (xs := acc) el hl
      refine ⟨_, rfl, ?_, nputs ns ms, _, _, by rw [m1], m2, nputs_nd nd, fun q => ?_⟩
      · rw [sizeLine_eq, List.length_map, List.length_map]; omega
      · rw [nputs_mem, me q, me2 q, row_mem ok hr, takeS hn]
        constructor
        · rintro (⟨p', hp', e⟩ | e)
          · exact ⟨p', List.mem_append_left _ hp', e⟩
          · exact ⟨n, by simp, e⟩
        · rintro ⟨p', hp', e⟩
          rcases List.mem_append.mp hp' with z | z
          · exact .inl ⟨p', z, e⟩
          · simp at z; subst z; exact .inr e
  · subst e
    rw [List.take_of_length_le (by simp)] at me
    have l1 := places_len ok nd (fun q hq => by obtain ⟨p', hp', k, hk, e⟩ := (me q).mp hq; rw [← e]; exact go_lt ok (p.lt _ hp') hk)
    exact srt_end nd (by rw [sizeLine_eq]; omega) me h
end
end K33

namespace K33
open PySem PySem.Spec PyProof.Rows L2 Dc
/-! dicts of numbers -/
theorem getD'_map {ns : List Nat} {f : Nat → D} {n : Nat} : getD' (ns.map kI) (ns.map f) (.inl (n : Int)) = if n ∈ ns then some (f n) else none := by
  unfold getD'
  induction ns with
  | nil => simp
  | cons a l ih =>
    rw [List.map_cons, List.map_cons, List.zip_cons_cons, List.find?_cons]
    by_cases e : a = n
    · subst e; simp
    · have : decide (kI a = Sum.inl (n : Int)) = false := decide_eq_false fun z => e (kI_inj.mp z)
      show Option.map (·.2) (match decide (kI a = Sum.inl (n : Int)) with | true => some (kI a, f a) | false => _) = _
      rw [this]
      refine ih.trans ?_
      have : n ∈ a :: l ↔ n ∈ l := by simp [Ne.symm e]
      by_cases h : n ∈ l
      · rw [if_pos h, if_pos (this.mpr h)]
      · rw [if_neg h, if_neg fun z => h (this.mp z)]
theorem zipIf {ns : List Nat} {f : Nat → D} {n : Nat} {z : D} : List.zipWith (fun j x => if j = (.inl (n : Int) : Key) then z else x) (ns.map kI) (ns.map f) = ns.map fun x => if x = n then z else f x := by
  induction ns with
  | nil => rfl
  | cons a l ih =>
    rw [List.map_cons, List.map_cons, List.zipWith_cons_cons, ih, List.map_cons]
    congr 1
    by_cases e : a = n
    · rw [if_pos e, if_pos (by rw [e])]
    · rw [if_neg e, if_neg fun h => e (kI_inj.mp h)]
theorem dputX_map {ns : List Nat} {f : Nat → D} {n : Nat} {z : D} : dputX (ns.map kI) (ns.map f) (.inl (n : Int)) z = (nput ns n).map fun x => if x = n then z else f x := by
  unfold dputX nput
  rw [hasK_map]
  by_cases h : n ∈ ns
  · rw [if_pos (by simpa using h), if_pos h, zipIf]
  · rw [if_neg (by simpa using h), if_neg h, List.map_append]
    congr 1
    · exact List.map_congr_left fun x hx => (if_neg fun (e : x = n) => h (e ▸ hx)).symm
    · simp
/-- a number added at a key -/
def bump (f : Nat → Nat) (q v : Nat) : Nat → Nat := fun x => if x = q then f x + v else f x
theorem put_bump {ns : List Nat} {f : Nat → Nat} {q v : Nat} : dputX (ns.map kI) (ns.map fun n => natD (f n)) (.inl (q : Int)) (natD (f q + v)) = (nput ns q).map fun n => natD (bump f q v n) := by
  rw [dputX_map]
  refine List.map_congr_left fun x _ => ?_
  unfold bump
  by_cases e : x = q
  · rw [if_pos e, if_pos e, e]
  · rw [if_neg e, if_neg e]
theorem get_zero {ns : List Nat} {f : Nat → Nat} {q : Nat} (z : ∀ p, p ∉ ns → f p = 0) : (getD' (ns.map kI) (ns.map fun n => natD (f n)) (.inl (q : Int))).getD (.int 0) = natD (f q) := by
  rw [getD'_map]
  by_cases h : q ∈ ns
  · rw [if_pos h]; rfl
  · rw [if_neg h, z q h]; rfl
theorem items_map {ns : List Nat} {f : Nat → D} : itemsD (ns.map kI) (ns.map f) = ns.map fun n => D.tup [natD n, f n] := by
  unfold itemsD
  induction ns with
  | nil => rfl
  | cons a l ih => rw [List.map_cons, List.map_cons, List.zip_cons_cons, List.map_cons, ih]; rfl
theorem bump_zero {ns : List Nat} {f : Nat → Nat} {q v : Nat} (z : ∀ p, p ∉ ns → f p = 0) : ∀ p, p ∉ nput ns q → bump f q v p = 0 := fun p hp => by
  rw [nput_mem] at hp
  unfold bump
  rw [if_neg fun e => hp (.inr e)]
  exact z p fun h => hp (.inl h)
end K33

namespace K33
open PySem PySem.Spec PyProof.Rows L2 Dc
variable [TabsT]
section
variable {P : Program} {KV : KW} (G : Gc P KV)
theorem mulN {a b x y : Nat} (ha : a < 2 ^ x) (hb : b < 2 ^ y) (hx : 0 < x) (hy : 0 < y) (h : x + y ≤ 1000000) : CMulW ((a : Nat) : Int) ((b : Nat) : Int) := by
  exact wide_mul ha hb hx hy h
theorem rd_is_above : Rd S_is_above (d_is_above G) N_is_above.length := by
  rintro _ Q ⟨a, b, c, d, rfl, ha, hb, hc, hd, h⟩
  simp only [d_is_above, N_is_above]
  simp only [rho0, List.map_cons, List.map_nil, List.length_cons, List.length_nil, List.cons_append, List.nil_append, List.replicate, Nat.sub_self, Nat.add_sub_cancel, dVar, dLook, dOp, dOpE, dMapB, dChain, dTst, dAnd, dOr, dNot, dAndV, dOrV, dNotV, dIf, dNil, dCons, bNil, bCons, dTup, dLst, dCB, dCall, sFor, dEnum, gTupD, gsCons, gsNil, gSet, dAct, dLc, dIlst, dItup, wipeR, dYes, dProp, dFld, dRng1, dIsC, Dc.rdAll, rdNe, rdEq, scalD, List.length_map, sFldD, dLst, dRng2, capS, lamL, rhoF, capSl, dDc, dDcN, sPutM, sPut, sdD, sdN, dDm, dMt, mdAppend, mdPop, dDk, sPar, sSeq, sIf, sRet, sSet, sExpr, sNext, sNever, vSh, vOw, dK1, dIsi, dIsi2, isD, rdI0, rdI, List.getElem?_cons_zero, List.getElem?_cons_succ, Nat.reduceAdd, Nat.reduceSub, List.set_cons_zero, List.set_cons_succ, Option.some.injEq, exists_eq_left', exists_eq_left, true_implies, false_implies, and_true, true_and, reduceCtorEq, Bool.not_true, Bool.not_false, Bool.false_eq_true, implies_true]
  refine ⟨natD a, rfl, natD d, rfl, ?_⟩
  refine (show CMulW (a : Int) (d : Int) ∧ _ from ⟨mulN ha hd (by decide) (by decide) (by decide), natD c, rfl, natD b, rfl, (show CMulW (c : Int) (b : Int) ∧ _ from ⟨mulN hc hb (by decide) (by decide) (by decide), ?_⟩)⟩)
  have e : decide ((c : Int) * (b : Int) < (a : Int) * (d : Int)) = decide (c * b < a * d) := decide_eq_decide.mpr (by rw [← Int.natCast_mul, ← Int.natCast_mul]; omega)
  rw [e]
  exact h
theorem rd_need_odds (h1 : G.S_need_watch = S_need_watch G.C) (h2 : G.S_need_shown = S_need_shown G.C) (h3 : G.S_need_weights = S_need_weights G.C) : Rd (S_need_odds G.C) (d_need_odds G) N_need_odds.length := by
  rintro _ Q ⟨W, K, s, ws, ok, sh, wt, rfl, h⟩
  simp only [d_need_odds, N_need_odds, h1, h2, h3]
  simp only [rho0, List.map_cons, List.map_nil, List.length_cons, List.length_nil, List.cons_append, List.nil_append, List.replicate, Nat.sub_self, Nat.add_sub_cancel, dVar, dLook, dOp, dOpE, dMapB, dChain, dTst, dAnd, dOr, dNot, dAndV, dOrV, dNotV, dIf, dNil, dCons, bNil, bCons, dTup, dLst, dCB, dCall, sFor, dEnum, gTupD, gsCons, gsNil, gSet, dAct, dLc, dIlst, dItup, wipeR, dYes, dProp, dFld, dRng1, dIsC, Dc.rdAll, rdNe, rdEq, scalD, List.length_map, sFldD, dLst, dRng2, capS, lamL, rhoF, capSl, dDc, dDcN, sPutM, sPut, sdD, sdN, dDm, dMt, mdAppend, mdPop, dDk, sPar, sSeq, sIf, sRet, sSet, sExpr, sNext, sNever, vSh, vOw, dK1, dIsi, dIsi2, isD, rdI0, rdI, List.getElem?_cons_zero, List.getElem?_cons_succ, Nat.reduceAdd, Nat.reduceSub, List.set_cons_zero, List.set_cons_succ, Option.some.injEq, exists_eq_left', exists_eq_left, true_implies, false_implies, and_true, true_and, reduceCtorEq, Bool.not_true, Bool.not_false, Bool.false_eq_true, implies_true]
  exact ⟨W, _, rfl, W, K, s, ok, sh, rfl, W, K, ws, ok, wt, rfl, h⟩
theorem rd_power : Rd S_power (d_power G) N_power.length := by
  rintro _ Q ⟨a, n, rfl, ha, hn, h⟩
  simp only [d_power, N_power]
  simp only [rho0, List.map_cons, List.map_nil, List.length_cons, List.length_nil, List.cons_append, List.nil_append, List.replicate, Nat.sub_self, Nat.add_sub_cancel, dVar, dLook, dOp, dOpE, dMapB, dChain, dTst, dAnd, dOr, dNot, dAndV, dOrV, dNotV, dIf, dNil, dCons, bNil, bCons, dTup, dLst, dCB, dCall, sFor, dEnum, gTupD, gsCons, gsNil, gSet, dAct, dLc, dIlst, dItup, wipeR, dYes, dProp, dFld, dRng1, dIsC, Dc.rdAll, rdNe, rdEq, scalD, List.length_map, sFldD, dLst, dRng2, capS, lamL, rhoF, capSl, dDc, dDcN, sPutM, sPut, sdD, sdN, dDm, dMt, mdAppend, mdPop, dDk, sPar, sSeq, sIf, sRet, sSet, sExpr, sNext, sNever, vSh, vOw, dK1, dIsi, dIsi2, isD, rdI0, rdI, List.getElem?_cons_zero, List.getElem?_cons_succ, Nat.reduceAdd, Nat.reduceSub, List.set_cons_zero, List.set_cons_succ, Option.some.injEq, exists_eq_left', exists_eq_left, true_implies, false_implies, and_true, true_and, reduceCtorEq, Bool.not_true, Bool.not_false, Bool.false_eq_true, implies_true]
  refine ⟨by omega, by omega, fun i ρ => ∃ z, ρ = [.sh (natD a), .sh (natD n), .sh (natD (a ^ i)), z], ⟨_, rfl⟩, fun i x ρ hx ⟨z, e⟩ => ?_, fun ρ ⟨z, e⟩ => ?_⟩
  · subst e
    simp only [rho0, List.map_cons, List.map_nil, List.length_cons, List.length_nil, List.cons_append, List.nil_append, List.replicate, Nat.sub_self, Nat.add_sub_cancel, dVar, dLook, dOp, dOpE, dMapB, dChain, dTst, dAnd, dOr, dNot, dAndV, dOrV, dNotV, dIf, dNil, dCons, bNil, bCons, dTup, dLst, dCB, dCall, sFor, dEnum, gTupD, gsCons, gsNil, gSet, dAct, dLc, dIlst, dItup, wipeR, dYes, dProp, dFld, dRng1, dIsC, Dc.rdAll, rdNe, rdEq, scalD, List.length_map, sFldD, dLst, dRng2, capS, lamL, rhoF, capSl, dDc, dDcN, sPutM, sPut, sdD, sdN, dDm, dMt, mdAppend, mdPop, dDk, sPar, sSeq, sIf, sRet, sSet, sExpr, sNext, sNever, vSh, vOw, dK1, dIsi, dIsi2, isD, rdI0, rdI, List.getElem?_cons_zero, List.getElem?_cons_succ, Nat.reduceAdd, Nat.reduceSub, List.set_cons_zero, List.set_cons_succ, Option.some.injEq, exists_eq_left', exists_eq_left, true_implies, false_implies, and_true, true_and, reduceCtorEq, Bool.not_true, Bool.not_false, Bool.false_eq_true, implies_true]
    have hi : i < n := by
      have := (List.getElem?_eq_some_iff.mp hx).1
      simpa [rngD] using this
    have b1 : a ^ i ≤ 2 ^ (25 * i) := by
      rw [Nat.pow_mul]
      exact Nat.pow_le_pow_left (Nat.le_of_lt ha) i
    have b2 : 2 ^ (25 * i) < 2 ^ 7501 := Nat.pow_lt_pow_right (by decide) (by omega)
    refine ⟨by decide, mulN (Nat.lt_of_le_of_lt b1 b2) ha (by decide) (by decide) (by decide), .sh x, ?_⟩
    have e : ((a ^ i : Nat) : Int) * (a : Int) = ((a ^ (i + 1) : Nat) : Int) := by rw [Nat.pow_succ, Int.natCast_mul]
    show [Sl.sh (natD a), Sl.sh (natD n), Sl.sh (D.int (((a ^ i : Nat) : Int) * (a : Int))), Sl.sh x] = _
    rw [e]
  · subst e
    have e : (rngD 0 (n : Int).toNat).length = n := by simp [rngD]
    rw [e]
    exact h
theorem rd_divisor : Rd S_divisor (d_divisor G) N_divisor.length := by
  rintro _ Q ⟨a, b, rfl, h⟩
  simp only [d_divisor, N_divisor]
  simp only [rho0, List.map_cons, List.map_nil, List.length_cons, List.length_nil, List.cons_append, List.nil_append, List.replicate, Nat.sub_self, Nat.add_sub_cancel, dVar, dLook, dOp, dOpE, dMapB, dChain, dTst, dAnd, dOr, dNot, dAndV, dOrV, dNotV, dIf, dNil, dCons, bNil, bCons, dTup, dLst, dCB, dCall, sFor, dEnum, gTupD, gsCons, gsNil, gSet, dAct, dLc, dIlst, dItup, wipeR, dYes, dProp, dFld, dRng1, dIsC, Dc.rdAll, rdNe, rdEq, scalD, List.length_map, sFldD, dLst, dRng2, capS, lamL, rhoF, capSl, dDc, dDcN, sPutM, sPut, sdD, sdN, dDm, dMt, mdAppend, mdPop, dDk, sPar, sSeq, sIf, sRet, sSet, sExpr, sNext, sNever, vSh, vOw, dK1, dIsi, dIsi2, isD, rdI0, rdI, List.getElem?_cons_zero, List.getElem?_cons_succ, Nat.reduceAdd, Nat.reduceSub, List.set_cons_zero, List.set_cons_succ, Option.some.injEq, exists_eq_left', exists_eq_left, true_implies, false_implies, and_true, true_and, reduceCtorEq, Bool.not_true, Bool.not_false, Bool.false_eq_true, implies_true]
  unfold sWhile
  refine ⟨fun m ρ => ∃ x y : Nat, ρ = [.sh (natD x), .sh (natD y)] ∧ x.gcd y = a.gcd b ∧ m = y, ⟨b, a, b, rfl, rfl, rfl⟩, fun m ρ ⟨x, y, e, hg, hm⟩ => ?_⟩
  subst e
  simp only [rho0, List.map_cons, List.map_nil, List.length_cons, List.length_nil, List.cons_append, List.nil_append, List.replicate, Nat.sub_self, Nat.add_sub_cancel, dVar, dLook, dOp, dOpE, dMapB, dChain, dTst, dAnd, dOr, dNot, dAndV, dOrV, dNotV, dIf, dNil, dCons, bNil, bCons, dTup, dLst, dCB, dCall, sFor, dEnum, gTupD, gsCons, gsNil, gSet, dAct, dLc, dIlst, dItup, wipeR, dYes, dProp, dFld, dRng1, dIsC, Dc.rdAll, rdNe, rdEq, scalD, List.length_map, sFldD, dLst, dRng2, capS, lamL, rhoF, capSl, dDc, dDcN, sPutM, sPut, sdD, sdN, dDm, dMt, mdAppend, mdPop, dDk, sPar, sSeq, sIf, sRet, sSet, sExpr, sNext, sNever, vSh, vOw, dK1, dIsi, dIsi2, isD, rdI0, rdI, List.getElem?_cons_zero, List.getElem?_cons_succ, Nat.reduceAdd, Nat.reduceSub, List.set_cons_zero, List.set_cons_succ, Option.some.injEq, exists_eq_left', exists_eq_left, true_implies, false_implies, and_true, true_and, reduceCtorEq, Bool.not_true, Bool.not_false, Bool.false_eq_true, implies_true]
  refine ⟨fun hb => ?_, fun hb => ?_⟩
  · have y0 : 0 < y := by
      simp at hb
      omega
    have hlt := Nat.mod_lt x y0
    refine ⟨by omega, x % y, by omega, y, x % y, ?_, ?_, rfl⟩
    · rfl
    · rw [← hg, Nat.gcd_comm y, ← Nat.gcd_rec, Nat.gcd_comm]
  · have y0 : y = 0 := by
      simp at hb
      omega
    subst y0
    rw [Nat.gcd_zero_right] at hg
    show Q (natD x)
    rw [hg]
    exact h
theorem rd_fraction_of (h1 : G.S_divisor = S_divisor) : Rd S_fraction_of (d_fraction_of G) N_fraction_of.length := by
  rintro _ Q ⟨a, b, rfl, b0, hb, h⟩
  simp only [d_fraction_of, N_fraction_of, h1]
  simp only [rho0, List.map_cons, List.map_nil, List.length_cons, List.length_nil, List.cons_append, List.nil_append, List.replicate, Nat.sub_self, Nat.add_sub_cancel, dVar, dLook, dOp, dOpE, dMapB, dChain, dTst, dAnd, dOr, dNot, dAndV, dOrV, dNotV, dIf, dNil, dCons, bNil, bCons, dTup, dLst, dCB, dCall, sFor, dEnum, gTupD, gsCons, gsNil, gSet, dAct, dLc, dIlst, dItup, wipeR, dYes, dProp, dFld, dRng1, dIsC, Dc.rdAll, rdNe, rdEq, scalD, List.length_map, sFldD, dLst, dRng2, capS, lamL, rhoF, capSl, dDc, dDcN, sPutM, sPut, sdD, sdN, dDm, dMt, mdAppend, mdPop, dDk, sPar, sSeq, sIf, sRet, sSet, sExpr, sNext, sNever, vSh, vOw, dK1, dIsi, dIsi2, isD, rdI0, rdI, List.getElem?_cons_zero, List.getElem?_cons_succ, Nat.reduceAdd, Nat.reduceSub, List.set_cons_zero, List.set_cons_succ, Option.some.injEq, exists_eq_left', exists_eq_left, true_implies, false_implies, and_true, true_and, reduceCtorEq, Bool.not_true, Bool.not_false, Bool.false_eq_true, implies_true]
  refine ⟨a, b, rfl, ?_⟩
  have g0 : 0 < a.gcd b := Nat.gcd_pos_of_pos_right _ b0
  have gl : a.gcd b ≤ b := Nat.gcd_le_right _ b0
  have c : ∀ i : Int, CDivW i ((a.gcd b : Nat) : Int) := fun i => wide_div (by omega) (Nat.lt_of_le_of_lt gl hb) (by decide) (by decide)
  refine (show CDivW (a : Int) ((a.gcd b : Nat) : Int) ∧ _ from ⟨c _, (show CDivW (b : Int) ((a.gcd b : Nat) : Int) ∧ _ from ⟨c _, by decide, ?_⟩)⟩)
  exact h
theorem rd_need_weights (h1 : G.S_is_list = S_is_list) (h2 : G.S_is_between = S_is_between) (h3 : G.S_kinds = S_kinds G.C) : Rd (S_need_weights G.C) (d_need_weights G) N_need_weights.length := by
  rintro _ Q ⟨W, K, ws, ok, wt, rfl, h⟩
  simp only [d_need_weights, N_need_weights, h1, h2, h3]
  simp only [rho0, List.map_cons, List.map_nil, List.length_cons, List.length_nil, List.cons_append, List.nil_append, List.replicate, Nat.sub_self, Nat.add_sub_cancel, dVar, dLook, dOp, dOpE, dMapB, dChain, dTst, dAnd, dOr, dNot, dAndV, dOrV, dNotV, dIf, dNil, dCons, bNil, bCons, dTup, dLst, dCB, dCall, sFor, dEnum, gTupD, gsCons, gsNil, gSet, dAct, dLc, dIlst, dItup, wipeR, dYes, dProp, dFld, dRng1, dIsC, Dc.rdAll, rdNe, rdEq, scalD, List.length_map, sFldD, dLst, dRng2, capS, lamL, rhoF, capSl, dDc, dDcN, sPutM, sPut, sdD, sdN, dDm, dMt, mdAppend, mdPop, dDk, sPar, sSeq, sIf, sRet, sSet, sExpr, sNext, sNever, vSh, vOw, dK1, dIsi, dIsi2, isD, rdI0, rdI, List.getElem?_cons_zero, List.getElem?_cons_succ, Nat.reduceAdd, Nat.reduceSub, List.set_cons_zero, List.set_cons_succ, Option.some.injEq, exists_eq_left', exists_eq_left, true_implies, false_implies, and_true, true_and, reduceCtorEq, Bool.not_true, Bool.not_false, Bool.false_eq_true, implies_true]
  refine ⟨_, .inl rfl, fun e => (nomatch e), fun _ => ?_⟩
  show (∃ fs xs, _) ∧ _
  refine ⟨⟨_, _, rfl⟩, W, K, ok, rfl, ?_⟩
  simp only [rho0, List.map_cons, List.map_nil, List.length_cons, List.length_nil, List.cons_append, List.nil_append, List.replicate, Nat.sub_self, Nat.add_sub_cancel, dVar, dLook, dOp, dOpE, dMapB, dChain, dTst, dAnd, dOr, dNot, dAndV, dOrV, dNotV, dIf, dNil, dCons, bNil, bCons, dTup, dLst, dCB, dCall, sFor, dEnum, gTupD, gsCons, gsNil, gSet, dAct, dLc, dIlst, dItup, wipeR, dYes, dProp, dFld, dRng1, dIsC, Dc.rdAll, rdNe, rdEq, scalD, List.length_map, sFldD, dLst, dRng2, capS, lamL, rhoF, capSl, dDc, dDcN, sPutM, sPut, sdD, sdN, dDm, dMt, mdAppend, mdPop, dDk, sPar, sSeq, sIf, sRet, sSet, sExpr, sNext, sNever, vSh, vOw, dK1, dIsi, dIsi2, isD, rdI0, rdI, List.getElem?_cons_zero, List.getElem?_cons_succ, Nat.reduceAdd, Nat.reduceSub, List.set_cons_zero, List.set_cons_succ, Option.some.injEq, exists_eq_left', exists_eq_left, true_implies, false_implies, and_true, true_and, reduceCtorEq, Bool.not_true, Bool.not_false, Bool.false_eq_true, implies_true]
  refine ⟨fun e => by simp [wt.ln] at e, fun _ => ?_⟩
  refine ⟨fun _ ρ => ∃ a b, ρ = [.sh (wD G.C W), .sh (lsD ws), a, b], ⟨_, _, rfl⟩, fun i x ρ hx ⟨a, b, e⟩ => ?_, fun ρ _ => h⟩
  obtain ⟨n, hn, rfl⟩ := getEnum hx
  subst e
  simp only [rho0, List.map_cons, List.map_nil, List.length_cons, List.length_nil, List.cons_append, List.nil_append, List.replicate, Nat.sub_self, Nat.add_sub_cancel, dVar, dLook, dOp, dOpE, dMapB, dChain, dTst, dAnd, dOr, dNot, dAndV, dOrV, dNotV, dIf, dNil, dCons, bNil, bCons, dTup, dLst, dCB, dCall, sFor, dEnum, gTupD, gsCons, gsNil, gSet, dAct, dLc, dIlst, dItup, wipeR, dYes, dProp, dFld, dRng1, dIsC, Dc.rdAll, rdNe, rdEq, scalD, List.length_map, sFldD, dLst, dRng2, capS, lamL, rhoF, capSl, dDc, dDcN, sPutM, sPut, sdD, sdN, dDm, dMt, mdAppend, mdPop, dDk, sPar, sSeq, sIf, sRet, sSet, sExpr, sNext, sNever, vSh, vOw, dK1, dIsi, dIsi2, isD, rdI0, rdI, List.getElem?_cons_zero, List.getElem?_cons_succ, Nat.reduceAdd, Nat.reduceSub, List.set_cons_zero, List.set_cons_succ, Option.some.injEq, exists_eq_left', exists_eq_left, true_implies, false_implies, and_true, true_and, reduceCtorEq, Bool.not_true, Bool.not_false, Bool.false_eq_true, implies_true]
  have := wt.bd n (mem_of hn)
  refine ⟨by decide, by decide, n, 1, 1000000, rfl, ?_⟩
  rw [decide_eq_true (by omega)]
  exact ⟨fun e => (nomatch e), fun _ => ⟨_, _, rfl⟩⟩
/-! numbers behind an item -/
def ksO (K : Nat) : Option Nat → List Nat
  | none => List.range K
  | some j => [j]
def wt1 (ws : List Nat) (it : Option Nat) (k : Nat) : Nat := if it.isNone then ws.getD k 0 else 1
def inn (W : Wt) (ws : List Nat) (f : Nat → Nat) (it : Option Nat) (p : Nat) (ks : List Nat) (q : Nat) : Nat := sumN ks fun k => if go W p k = q then f p * wt1 ws it k else 0
theorem inn_all {W : Wt} {ws : List Nat} {f : Nat → Nat} {it : Option Nat} {K p q : Nat} (hi : ∀ k, it = some k → k < K) : inn W ws f it p (ksO K it) q = sumN (List.range K) fun k => if go W p k = q then f p * wtO ws it k else 0 := by
  cases it with
  | none => rfl
  | some j =>
    have hj := hi j rfl
    have e : sumN [j] (fun k => if go W p k = q then f p * wtO ws (some j) k else 0) = sumN (List.range K) (fun k => if go W p k = q then f p * wtO ws (some j) k else 0) :=
      sumN_sub (by simp) List.nodup_range (fun x hx => by simp at hx; subst hx; exact List.mem_range.mpr hj) fun x _ h => by
        simp only [List.mem_singleton] at h
        rw [wtO_some, if_neg h, Nat.mul_zero, ite_self]
    rw [← e]
    show sumN [j] _ = _
    rw [sumN_one, sumN_one, wtO_some, if_pos rfl]
    rfl
theorem heav_end {W : Wt} {ws : List Nat} {f g : Nat → Nat} {it : Option Nat} {K : Nat} {ns : List Nat} (hi : ∀ k, it = some k → k < K) (nd : ns.Nodup) (lt : ∀ p ∈ ns, p < W.mv.length) (z : ∀ p, p ∉ ns → f p = 0) (h : ∀ q, g q = sumN ns fun p => inn W ws f it p (ksO K it) q) : g = numStep W ws K f it := by
  funext q
  rw [h q]
  refine (sumN_congr fun p _ => inn_all hi).trans ?_
  refine sumN_range nd lt fun p hp => ?_
  exact sumN_zero fun k _ => by rw [z p hp, Nat.zero_mul, ite_self]
theorem ksO_lt {K : Nat} {it : Option Nat} (hi : ∀ k, it = some k → k < K) : ∀ k ∈ ksO K it, k < K := fun k hk => by
  cases it with
  | none => exact List.mem_range.mp hk
  | some j => simp [ksO] at hk; rw [hk]; exact hi j rfl
theorem ksO_beh {W : Wt} {K : Nat} {ns : List Nat} {it : Option Nat} {q : Nat} : behW W K true (· ∈ ns) it q ↔ ∃ p ∈ ns, ∃ k ∈ ksO K it, go W p k = q := by
  cases it with
  | none =>
    constructor
    · rintro ⟨p, hp, k, hk, e⟩
      exact ⟨p, hp, k, List.mem_range.mpr hk, e⟩
    · rintro ⟨p, hp, k, hk, e⟩
      exact ⟨p, hp, k, List.mem_range.mp hk, e⟩
  | some j =>
    constructor
    · rintro ⟨p, hp, e⟩
      exact ⟨p, hp, j, by simp [ksO], e⟩
    · rintro ⟨p, hp, k, hk, e⟩
      simp [ksO] at hk
      subst hk
      exact ⟨p, hp, e⟩
structure Hv (W : Wt) (ws : List Nat) (K : Nat) (it : Option Nat) (f : Nat → Nat) (ps qs : List Nat) (g : Nat → Nat) : Prop where
  nd : qs.Nodup
  ze : ∀ p, p ∉ qs → g p = 0
  me : ∀ q, q ∈ qs ↔ ∃ p ∈ ps, ∃ k ∈ ksO K it, go W p k = q
  va : ∀ q, g q = sumN ps fun p => inn W ws f it p (ksO K it) q
structure Hw (W : Wt) (ws : List Nat) (K : Nat) (it : Option Nat) (f : Nat → Nat) (ps : List Nat) (n : Nat) (ks qs : List Nat) (g : Nat → Nat) : Prop where
  nd : qs.Nodup
  ze : ∀ p, p ∉ qs → g p = 0
  me : ∀ q, q ∈ qs ↔ (∃ p ∈ ps, ∃ k ∈ ksO K it, go W p k = q) ∨ ∃ k ∈ ks, go W n k = q
  va : ∀ q, g q = (sumN ps fun p => inn W ws f it p (ksO K it) q) + inn W ws f it n ks q
theorem Hv.hw {W : Wt} {ws : List Nat} {K : Nat} {it : Option Nat} {f : Nat → Nat} {ps qs : List Nat} {g : Nat → Nat} (h : Hv W ws K it f ps qs g) (n : Nat) : Hw W ws K it f ps n [] qs g :=
  ⟨h.nd, h.ze, fun q => by rw [h.me q]; simp, h.va⟩
theorem Hw.hv {W : Wt} {ws : List Nat} {K : Nat} {it : Option Nat} {f : Nat → Nat} {ps qs : List Nat} {g : Nat → Nat} {n : Nat} (h : Hw W ws K it f ps n (ksO K it) qs g) : Hv W ws K it f (ps ++ [n]) qs g :=
  ⟨h.nd, h.ze, fun q => by
    rw [h.me q]
    constructor
    · rintro (⟨p, hp, z⟩ | z)
      · exact ⟨p, List.mem_append_left _ hp, z⟩
      · exact ⟨n, by simp, z⟩
    · rintro ⟨p, hp, z⟩
      rcases List.mem_append.mp hp with w | w
      · exact .inl ⟨p, w, z⟩
      · simp at w; subst w; exact .inr z, fun q => by rw [h.va q, sumN_append, sumN_one]⟩
theorem Hw.put {W : Wt} {ws : List Nat} {K : Nat} {it : Option Nat} {f : Nat → Nat} {ps qs ks : List Nat} {g : Nat → Nat} {n k : Nat} (h : Hw W ws K it f ps n ks qs g) : Hw W ws K it f ps n (ks ++ [k]) (nput qs (go W n k)) (bump g (go W n k) (f n * wt1 ws it k)) :=
  ⟨nput_nd h.nd, bump_zero h.ze, fun q => by
    rw [nput_mem, h.me q, or_assoc]
    refine or_congr Iff.rfl ?_
    constructor
    · rintro (⟨j, hj, e⟩ | e)
      · exact ⟨j, List.mem_append_left _ hj, e⟩
      · exact ⟨k, by simp, e.symm⟩
    · rintro ⟨j, hj, e⟩
      rcases List.mem_append.mp hj with z | z
      · exact .inl ⟨j, z, e⟩
      · simp at z; subst z; exact .inr e.symm, fun q => by
    unfold bump inn
    rw [sumN_append, sumN_one]
    have := h.va q
    unfold inn at this
    by_cases e : q = go W n k
    · rw [if_pos e, if_pos e.symm, this]; omega
    · rw [if_neg e, if_neg (Ne.symm e), this]; rfl⟩
theorem ix_lst {α : Type} {f : α → D} {l : List α} {j : Nat} {a : α} {Q : D → Prop} (h : l[j]? = some a) (q : Q (f a)) : rdIx (.lst (l.map f)) (natD j) Q := ⟨_, atI_map h, q⟩
theorem heav_len {W : Wt} {ws : List Nat} {K : Nat} {it : Option Nat} {f : Nat → Nat} {ns ps qs ks : List Nat} {g : Nat → Nat} {n : Nat} (ok : W.Ok K) (lt : ∀ p ∈ ns, p < W.mv.length) (hp : n < W.mv.length) (hi : ∀ k, it = some k → k < K) (hw : Hw W ws K it f ps n ks qs g) (hs : ∀ p ∈ ps, p ∈ ns) (hk : ∀ k ∈ ks, k ∈ ksO K it) : qs.length ≤ 6 :=
  places_len ok hw.nd fun q hq => by
    rcases (hw.me q).mp hq with ⟨p, h1, k, h2, e⟩ | ⟨k, h2, e⟩
    · rw [← e]; exact go_lt ok (lt p (hs p h1)) (ksO_lt hi k h2)
    · rw [← e]; exact go_lt ok hp (ksO_lt hi k (hk k h2))
theorem rd_heavier_by (h1 : G.S_kinds = S_kinds G.C) (h2 : G.S_moves = S_moves G.C) : Rd (S_heavier_by G.C) (d_heavier_by G) N_heavier_by.length := by
  rintro _ Q ⟨W, K, ns, f, it, ws, ok, wt, nd, lt, fz, fb, hi, rfl, h⟩
  simp only [d_heavier_by, N_heavier_by, h1, h2]
  simp only [rho0, List.map_cons, List.map_nil, List.length_cons, List.length_nil, List.cons_append, List.nil_append, List.replicate, Nat.sub_self, Nat.add_sub_cancel, dVar, dLook, dOp, dOpE, dMapB, dChain, dTst, dAnd, dOr, dNot, dAndV, dOrV, dNotV, dIf, dNil, dCons, bNil, bCons, dTup, dLst, dCB, dCall, sFor, dEnum, gTupD, gsCons, gsNil, gSet, dAct, dLc, dIlst, dItup, wipeR, dYes, dProp, dFld, dRng1, dIsC, Dc.rdAll, rdNe, rdEq, scalD, List.length_map, sFldD, dLst, dRng2, capS, lamL, rhoF, capSl, dDc, dDcN, sPutM, sPut, sdD, sdN, dDm, dMt, mdAppend, mdPop, dDk, sPar, sSeq, sIf, sRet, sSet, sExpr, sNext, sNever, vSh, vOw, dK1, dIsi, dIsi2, isD, rdI0, rdI, List.getElem?_cons_zero, List.getElem?_cons_succ, Nat.reduceAdd, Nat.reduceSub, List.set_cons_zero, List.set_cons_succ, Option.some.injEq, exists_eq_left', exists_eq_left, true_implies, false_implies, and_true, true_and, reduceCtorEq, Bool.not_true, Bool.not_false, Bool.false_eq_true, implies_true]
  have k4 := ok.k4
  refine ⟨_, _, rfl, fun i ρ => ∃ qs g a b c d, ρ = [.sh (wD G.C W), .sh (dkF ns f), .sh (itD it), .sh (lsD ws), .ow (dkF qs g), a, b, c, d] ∧ Hv W ws K it f (ns.take i) qs g, ⟨[], fun _ => 0, _, _, _, _, rfl, by simp, fun _ _ => rfl, by simp, fun _ => rfl⟩, fun i x ρ hx ⟨qs, g, a, b, c, d, e, hv⟩ => ?_, fun ρ ⟨qs, g, a, b, c, d, e, hv⟩ => ?_⟩
  · rw [items_map] at hx
    obtain ⟨n, hn, rfl⟩ := getMap hx
    subst e
    simp only [rho0, List.map_cons, List.map_nil, List.length_cons, List.length_nil, List.cons_append, List.nil_append, List.replicate, Nat.sub_self, Nat.add_sub_cancel, dVar, dLook, dOp, dOpE, dMapB, dChain, dTst, dAnd, dOr, dNot, dAndV, dOrV, dNotV, dIf, dNil, dCons, bNil, bCons, dTup, dLst, dCB, dCall, sFor, dEnum, gTupD, gsCons, gsNil, gSet, dAct, dLc, dIlst, dItup, wipeR, dYes, dProp, dFld, dRng1, dIsC, Dc.rdAll, rdNe, rdEq, scalD, List.length_map, sFldD, dLst, dRng2, capS, lamL, rhoF, capSl, dDc, dDcN, sPutM, sPut, sdD, sdN, dDm, dMt, mdAppend, mdPop, dDk, sPar, sSeq, sIf, sRet, sSet, sExpr, sNext, sNever, vSh, vOw, dK1, dIsi, dIsi2, isD, rdI0, rdI, List.getElem?_cons_zero, List.getElem?_cons_succ, Nat.reduceAdd, Nat.reduceSub, List.set_cons_zero, List.set_cons_succ, Option.some.injEq, exists_eq_left', exists_eq_left, true_implies, false_implies, and_true, true_and, reduceCtorEq, Bool.not_true, Bool.not_false, Bool.false_eq_true, implies_true]
    refine ⟨by decide, by decide, ?_⟩
    have hp := lt n (mem_of hn)
    cases it with
    | none =>
      refine ⟨fun _ => ?_, fun e => (nomatch e)⟩
      unfold dLR
      simp only [rho0, List.map_cons, List.map_nil, List.length_cons, List.length_nil, List.cons_append, List.nil_append, List.replicate, Nat.sub_self, Nat.add_sub_cancel, dVar, dLook, dOp, dOpE, dMapB, dChain, dTst, dAnd, dOr, dNot, dAndV, dOrV, dNotV, dIf, dNil, dCons, bNil, bCons, dTup, dLst, dCB, dCall, sFor, dEnum, gTupD, gsCons, gsNil, gSet, dAct, dLc, dIlst, dItup, wipeR, dYes, dProp, dFld, dRng1, dIsC, Dc.rdAll, rdNe, rdEq, scalD, List.length_map, sFldD, dLst, dRng2, capS, lamL, rhoF, capSl, dDc, dDcN, sPutM, sPut, sdD, sdN, dDm, dMt, mdAppend, mdPop, dDk, sPar, sSeq, sIf, sRet, sSet, sExpr, sNext, sNever, vSh, vOw, dK1, dIsi, dIsi2, isD, rdI0, rdI, List.getElem?_cons_zero, List.getElem?_cons_succ, Nat.reduceAdd, Nat.reduceSub, List.set_cons_zero, List.set_cons_succ, Option.some.injEq, exists_eq_left', exists_eq_left, true_implies, false_implies, and_true, true_and, reduceCtorEq, Bool.not_true, Bool.not_false, Bool.false_eq_true, implies_true]
      refine ⟨⟨_, _, rfl⟩, W, K, ok, rfl, by omega, by omega, fun j ρ => ∃ qs g c d, ρ = [.sh (wD G.C W), .sh (dkF ns f), .sh .non, .sh (lsD ws), .ow (dkF qs g), .sh (natD n), .sh (natD (f n)), c, d] ∧ Hw W ws K none f (ns.take i) n ((List.range K).take j) qs g, ⟨qs, g, _, _, rfl, hv.hw n⟩, fun j x ρ hx ⟨qs, g, c, d, e, hw⟩ => ?_, fun ρ ⟨qs, g, c, d, e, hw⟩ => ?_⟩
      · obtain ⟨hj, rfl⟩ := rng_at hx
        subst e
        simp only [rho0, List.map_cons, List.map_nil, List.length_cons, List.length_nil, List.cons_append, List.nil_append, List.replicate, Nat.sub_self, Nat.add_sub_cancel, dVar, dLook, dOp, dOpE, dMapB, dChain, dTst, dAnd, dOr, dNot, dAndV, dOrV, dNotV, dIf, dNil, dCons, bNil, bCons, dTup, dLst, dCB, dCall, sFor, dEnum, gTupD, gsCons, gsNil, gSet, dAct, dLc, dIlst, dItup, wipeR, dYes, dProp, dFld, dRng1, dIsC, Dc.rdAll, rdNe, rdEq, scalD, List.length_map, sFldD, dLst, dRng2, capS, lamL, rhoF, capSl, dDc, dDcN, sPutM, sPut, sdD, sdN, dDm, dMt, mdAppend, mdPop, dDk, sPar, sSeq, sIf, sRet, sSet, sExpr, sNext, sNever, vSh, vOw, dK1, dIsi, dIsi2, isD, rdI0, rdI, List.getElem?_cons_zero, List.getElem?_cons_succ, Nat.reduceAdd, Nat.reduceSub, List.set_cons_zero, List.set_cons_succ, Option.some.injEq, exists_eq_left', exists_eq_left, true_implies, false_implies, and_true, true_and, reduceCtorEq, Bool.not_true, Bool.not_false, Bool.false_eq_true, implies_true]
        refine ⟨by decide, ⟨_, _, rfl⟩, W, rfl, ix_go ok hp hj ?_⟩
        unfold dGet2
        simp only [rho0, List.map_cons, List.map_nil, List.length_cons, List.length_nil, List.cons_append, List.nil_append, List.replicate, Nat.sub_self, Nat.add_sub_cancel, dVar, dLook, dOp, dOpE, dMapB, dChain, dTst, dAnd, dOr, dNot, dAndV, dOrV, dNotV, dIf, dNil, dCons, bNil, bCons, dTup, dLst, dCB, dCall, sFor, dEnum, gTupD, gsCons, gsNil, gSet, dAct, dLc, dIlst, dItup, wipeR, dYes, dProp, dFld, dRng1, dIsC, Dc.rdAll, rdNe, rdEq, scalD, List.length_map, sFldD, dLst, dRng2, capS, lamL, rhoF, capSl, dDc, dDcN, sPutM, sPut, sdD, sdN, dDm, dMt, mdAppend, mdPop, dDk, sPar, sSeq, sIf, sRet, sSet, sExpr, sNext, sNever, vSh, vOw, dK1, dIsi, dIsi2, isD, rdI0, rdI, List.getElem?_cons_zero, List.getElem?_cons_succ, Nat.reduceAdd, Nat.reduceSub, List.set_cons_zero, List.set_cons_succ, Option.some.injEq, exists_eq_left', exists_eq_left, true_implies, false_implies, and_true, true_and, reduceCtorEq, Bool.not_true, Bool.not_false, Bool.false_eq_true, implies_true]
        refine ⟨_, rfl, fun _ => ?_, fun e => (nomatch e)⟩
        have hj2 : j < ws.length := by rw [wt.ln]; exact hj
        have ew : ws[j]? = some (ws.getD j 0) := by rw [getD_at hj2]; exact List.getElem?_eq_getElem hj2
        refine ix_lst ew ?_
        have b1 : ws.getD j 0 < 2 ^ 20 := by have := (wt.bd _ (mem_of ew)).2; omega
        rw [get_zero hw.ze]
        have ez : ((g (go W n j) : Nat) : Int) + ((f n : Nat) : Int) * ((ws.getD j 0 : Nat) : Int) = ((g (go W n j) + f n * wt1 ws none j : Nat) : Int) := by
          rw [Int.natCast_add, Int.natCast_mul]; rfl
        refine ⟨mulN (fb n) b1 (by decide) (by decide) (by decide), ⟨_, rfl⟩, _, rfl, _, rfl, ?_, nput qs (go W n j), bump g (go W n j) (f n * wt1 ws none j), .sh (natD j), .sh (natD (go W n j)), ?_, ?_⟩
        · have l1 := heav_len ok lt hp hi hw (fun p hp => List.mem_of_mem_take hp) (fun k hk => List.mem_of_mem_take hk)
          rw [sizeLine_eq, List.length_map]; omega
        · rw [dputK_map]
          dsimp only
          rw [ez, put_bump]
        · rw [takeS (List.getElem?_range hj)]
          exact hw.put
      · subst e
        rw [rng_len, List.take_of_length_le (l := List.range K) (by rw [List.length_range]; exact Nat.le_refl _)] at hw
        exact ⟨qs, g, _, _, _, _, rfl, by rw [takeS hn]; exact hw.hv⟩
    | some k =>
      have hk := hi k rfl
      refine ⟨fun e => (nomatch e), fun _ => ?_⟩
      refine ⟨by decide, fun j ρ => ∃ qs g c d, ρ = [.sh (wD G.C W), .sh (dkF ns f), .sh (natD k), .sh (lsD ws), .ow (dkF qs g), .sh (natD n), .sh (natD (f n)), c, d] ∧ Hw W ws K (some k) f (ns.take i) n ([k].take j) qs g, ⟨qs, g, _, _, rfl, hv.hw n⟩, fun j x ρ hx ⟨qs, g, c, d, e, hw⟩ => ?_, fun ρ ⟨qs, g, c, d, e, hw⟩ => ?_⟩
      · obtain ⟨ej, rfl⟩ : j = 0 ∧ x = natD k := by
          cases j with
          | zero => exact ⟨rfl, (Option.some.inj hx).symm⟩
          | succ j => simp at hx
        subst ej
        subst e
        simp only [rho0, List.map_cons, List.map_nil, List.length_cons, List.length_nil, List.cons_append, List.nil_append, List.replicate, Nat.sub_self, Nat.add_sub_cancel, dVar, dLook, dOp, dOpE, dMapB, dChain, dTst, dAnd, dOr, dNot, dAndV, dOrV, dNotV, dIf, dNil, dCons, bNil, bCons, dTup, dLst, dCB, dCall, sFor, dEnum, gTupD, gsCons, gsNil, gSet, dAct, dLc, dIlst, dItup, wipeR, dYes, dProp, dFld, dRng1, dIsC, Dc.rdAll, rdNe, rdEq, scalD, List.length_map, sFldD, dLst, dRng2, capS, lamL, rhoF, capSl, dDc, dDcN, sPutM, sPut, sdD, sdN, dDm, dMt, mdAppend, mdPop, dDk, sPar, sSeq, sIf, sRet, sSet, sExpr, sNext, sNever, vSh, vOw, dK1, dIsi, dIsi2, isD, rdI0, rdI, List.getElem?_cons_zero, List.getElem?_cons_succ, Nat.reduceAdd, Nat.reduceSub, List.set_cons_zero, List.set_cons_succ, Option.some.injEq, exists_eq_left', exists_eq_left, true_implies, false_implies, and_true, true_and, reduceCtorEq, Bool.not_true, Bool.not_false, Bool.false_eq_true, implies_true]
        refine ⟨by decide, ⟨_, _, rfl⟩, W, rfl, ix_go ok hp hk ?_⟩
        unfold dGet2
        simp only [rho0, List.map_cons, List.map_nil, List.length_cons, List.length_nil, List.cons_append, List.nil_append, List.replicate, Nat.sub_self, Nat.add_sub_cancel, dVar, dLook, dOp, dOpE, dMapB, dChain, dTst, dAnd, dOr, dNot, dAndV, dOrV, dNotV, dIf, dNil, dCons, bNil, bCons, dTup, dLst, dCB, dCall, sFor, dEnum, gTupD, gsCons, gsNil, gSet, dAct, dLc, dIlst, dItup, wipeR, dYes, dProp, dFld, dRng1, dIsC, Dc.rdAll, rdNe, rdEq, scalD, List.length_map, sFldD, dLst, dRng2, capS, lamL, rhoF, capSl, dDc, dDcN, sPutM, sPut, sdD, sdN, dDm, dMt, mdAppend, mdPop, dDk, sPar, sSeq, sIf, sRet, sSet, sExpr, sNext, sNever, vSh, vOw, dK1, dIsi, dIsi2, isD, rdI0, rdI, List.getElem?_cons_zero, List.getElem?_cons_succ, Nat.reduceAdd, Nat.reduceSub, List.set_cons_zero, List.set_cons_succ, Option.some.injEq, exists_eq_left', exists_eq_left, true_implies, false_implies, and_true, true_and, reduceCtorEq, Bool.not_true, Bool.not_false, Bool.false_eq_true, implies_true]
        refine ⟨_, rfl, fun e => (nomatch e), fun _ => ?_⟩
        rw [get_zero hw.ze]
        have ez : ((g (go W n k) : Nat) : Int) + ((f n : Nat) : Int) * 1 = ((g (go W n k) + f n * wt1 ws (some k) k : Nat) : Int) := by
          rw [Int.natCast_add, Int.natCast_mul]; rfl
        refine ⟨mulN (b := 1) (fb n) (by decide) (by decide) (by decide) (y := 1) (by decide), ⟨_, rfl⟩, _, rfl, _, rfl, ?_, nput qs (go W n k), bump g (go W n k) (f n * wt1 ws (some k) k), .sh (natD k), .sh (natD (go W n k)), ?_, ?_⟩
        · have l1 := heav_len ok lt hp hi hw (fun p hp => List.mem_of_mem_take hp) (fun k hk => List.mem_of_mem_take hk)
          rw [sizeLine_eq, List.length_map]; omega
        · rw [dputK_map]
          dsimp only
          rw [ez, put_bump]
        · exact hw.put
      · subst e
        exact ⟨qs, g, _, _, _, _, rfl, by rw [takeS hn]; exact hw.hv⟩
  · subst e
    rw [items_map, List.length_map, List.take_length] at hv
    rw [heav_end hi nd lt fz hv.va] 
    exact h qs hv.nd fun q => by rw [hv.me q, ksO_beh]
end
end K33

namespace K33
open PySem PySem.Spec PyProof.Rows L2 Dc
variable [TabsT]
section
variable {P : Program} {KV : KW} (G : Gc P KV)
theorem unk_take {s : List (Option Nat)} {i : Nat} {it : Option Nat} (h : s[i]? = some it) : unk (s.take (i + 1)) = unk (s.take i) + if it.isNone then 1 else 0 := by
  rw [takeS h, unk_snoc]
theorem len_l {xs : List D} {Q : D → Prop} {n : Nat} (e : xs.length = n) (q : Q (natD n)) : Dc.rdLen [.lst xs] Q := by
  subst e; exact q
theorem len_t {xs : List D} {Q : D → Prop} {n : Nat} (e : xs.length = n) (q : Q (natD n)) : Dc.rdLen [.tup xs] Q := by
  subst e; exact q
theorem lst_t {xs : List D} {Q : D → Prop} (q : Q (.lst xs)) : Dc.rdLst [.tup xs] Q := q
def NoO (a : Sl) : Prop := a = .no ∨ ∃ d, a = .sh d
theorem NoO.ok {a : Sl} (h : NoO a) (d : D) : some a ≠ some (.ow d) ∧ ∀ b, some a ≠ some (.my b d) := by
  rcases h with rfl | ⟨d', rfl⟩ <;> simp
theorem sum_nats {ws : List Nat} : (ws.map fun n : Nat => (n : Int)).sum = ((ws.sum : Nat) : Int) := by
  induction ws with
  | nil => rfl
  | cons a l ih => rw [List.map_cons, List.sum_cons, List.sum_cons, ih, Int.natCast_add]
theorem rd_sum {ws : List Nat} {Q : D → Prop} (q : Q (natD ws.sum)) : rdSum [lsD ws] Q := by
  refine ⟨ws.map fun n : Nat => (n : Int), by rw [List.map_map]; rfl, ?_⟩
  rw [sum_nats]
  exact q
theorem Sh.take {K : Nat} {s : List (Option Nat)} (h : Sh K s) (i : Nat) : Sh K (s.take i) := ⟨Nat.le_trans (List.length_take_le' ..) h.ln, fun k hk => h.kd k (List.mem_of_mem_take hk)⟩
theorem rd_numbers_by (h1 : G.S_heavier_by = S_heavier_by G.C) (h2 : G.S_power = S_power) : Rd (S_numbers_by G.C) (d_numbers_by G) N_numbers_by.length := by
  rintro _ Q ⟨W, K, s, ws, ok, wt, sh, rfl, h⟩
  simp only [d_numbers_by, N_numbers_by, h1, h2]
  unfold dDisp1
  simp only [rho0, List.map_cons, List.map_nil, List.length_cons, List.length_nil, List.cons_append, List.nil_append, List.replicate, Nat.sub_self, Nat.add_sub_cancel, dVar, dLook, dOp, dOpE, dMapB, dChain, dTst, dAnd, dOr, dNot, dAndV, dOrV, dNotV, dIf, dNil, dCons, bNil, bCons, dTup, dLst, dCB, dCall, sFor, dEnum, gTupD, gsCons, gsNil, gSet, dAct, dLc, dIlst, dItup, wipeR, dYes, dProp, dFld, dRng1, dIsC, Dc.rdAll, rdNe, rdEq, scalD, List.length_map, sFldD, dLst, dRng2, capS, lamL, rhoF, capSl, dDc, dDcN, sPutM, sPut, sdD, sdN, dDm, dMt, mdAppend, mdPop, dDk, sPar, sSeq, sIf, sRet, sSet, sExpr, sNext, sNever, vSh, vOw, dK1, dIsi, dIsi2, isD, rdI0, rdI, List.getElem?_cons_zero, List.getElem?_cons_succ, Nat.reduceAdd, Nat.reduceSub, List.set_cons_zero, List.set_cons_succ, Option.some.injEq, exists_eq_left', exists_eq_left, true_implies, false_implies, and_true, true_and, reduceCtorEq, Bool.not_true, Bool.not_false, Bool.false_eq_true, implies_true]
  refine ⟨0, rfl, fun i ρ => ∃ qs a z, ρ = [.sh (wD G.C W), .sh (shD s), .sh (lsD ws), z, a] ∧ NoO a ∧ (z = .sh (dkF qs (numW W ws K (s.take i))) ∨ z = .ow (dkF qs (numW W ws K (s.take i)))) ∧ qs.Nodup ∧ ∀ q, q ∈ qs ↔ ledW W K true (s.take i) q, ⟨[0], _, _, rfl, .inl rfl, .inr rfl, by simp, by simp [ledW]⟩, fun i x ρ hx ⟨qs, a, z, e, na, ez, nd, me⟩ => ?_, fun ρ ⟨qs, a, z, e, na, ez, nd, me⟩ => ?_⟩
  · obtain ⟨it, hi, rfl⟩ := getMap hx
    have hs : ∀ k, some k ∈ s.take i → k < K := (sh.take i).kd
    have st : S_heavier_by G.C [wD G.C W, dkF qs (numW W ws K (s.take i)), itD it, lsD ws] fun z => ∃ (qs : List Nat) (a z' : Sl), [Sl.sh (wD G.C W), .sh (shD s), .sh (lsD ws), .sh z, .sh (itD it)] = [.sh (wD G.C W), .sh (shD s), .sh (lsD ws), z', a] ∧ NoO a ∧ (z' = .sh (dkF qs (numW W ws K (s.take (i + 1)))) ∨ z' = .ow (dkF qs (numW W ws K (s.take (i + 1))))) ∧ qs.Nodup ∧ ∀ q, q ∈ qs ↔ ledW W K true (s.take (i + 1)) q := by
      refine ⟨W, K, qs, _, it, ws, ok, wt, nd, fun p hp => ledW_lt ok hs p ((me p).mp hp), fun p hp => ?_, fun p => ?_, fun k e => sh.kd k (e ▸ mem_of hi), rfl, fun qs' nd' me' => ⟨qs', _, _, rfl, .inr ⟨_, rfl⟩, .inl ?_, nd', fun q => ?_⟩⟩
      · rcases Nat.eq_zero_or_pos (numW W ws K (s.take i) p) with e | e
        · exact e
        · exact absurd ((me p).mpr ((numW_led ok wt hs p).mp e)) hp
      · exact Nat.lt_trans (numW_lt ok wt (sh.take i) p) (Nat.pow_lt_pow_right (by decide) (by decide))
      · rw [takeS hi, numW_snoc]
      · rw [me' q, takeS hi, led_snoc]
        have e : (fun x => x ∈ qs) = ledW W K true (s.take i) := funext fun q => propext (me q)
        rw [e]
    subst e
    rcases ez with rfl | rfl
    · simp only [rho0, List.map_cons, List.map_nil, List.length_cons, List.length_nil, List.cons_append, List.nil_append, List.replicate, Nat.sub_self, Nat.add_sub_cancel, dVar, dLook, dOp, dOpE, dMapB, dChain, dTst, dAnd, dOr, dNot, dAndV, dOrV, dNotV, dIf, dNil, dCons, bNil, bCons, dTup, dLst, dCB, dCall, sFor, dEnum, gTupD, gsCons, gsNil, gSet, dAct, dLc, dIlst, dItup, wipeR, dYes, dProp, dFld, dRng1, dIsC, Dc.rdAll, rdNe, rdEq, scalD, List.length_map, sFldD, dLst, dRng2, capS, lamL, rhoF, capSl, dDc, dDcN, sPutM, sPut, sdD, sdN, dDm, dMt, mdAppend, mdPop, dDk, sPar, sSeq, sIf, sRet, sSet, sExpr, sNext, sNever, vSh, vOw, dK1, dIsi, dIsi2, isD, rdI0, rdI, List.getElem?_cons_zero, List.getElem?_cons_succ, Nat.reduceAdd, Nat.reduceSub, List.set_cons_zero, List.set_cons_succ, Option.some.injEq, exists_eq_left', exists_eq_left, true_implies, false_implies, and_true, true_and, reduceCtorEq, Bool.not_true, Bool.not_false, Bool.false_eq_true, implies_true]; exact ⟨by decide, st⟩
    · simp only [rho0, List.map_cons, List.map_nil, List.length_cons, List.length_nil, List.cons_append, List.nil_append, List.replicate, Nat.sub_self, Nat.add_sub_cancel, dVar, dLook, dOp, dOpE, dMapB, dChain, dTst, dAnd, dOr, dNot, dAndV, dOrV, dNotV, dIf, dNil, dCons, bNil, bCons, dTup, dLst, dCB, dCall, sFor, dEnum, gTupD, gsCons, gsNil, gSet, dAct, dLc, dIlst, dItup, wipeR, dYes, dProp, dFld, dRng1, dIsC, Dc.rdAll, rdNe, rdEq, scalD, List.length_map, sFldD, dLst, dRng2, capS, lamL, rhoF, capSl, dDc, dDcN, sPutM, sPut, sdD, sdN, dDm, dMt, mdAppend, mdPop, dDk, sPar, sSeq, sIf, sRet, sSet, sExpr, sNext, sNever, vSh, vOw, dK1, dIsi, dIsi2, isD, rdI0, rdI, List.getElem?_cons_zero, List.getElem?_cons_succ, Nat.reduceAdd, Nat.reduceSub, List.set_cons_zero, List.set_cons_succ, Option.some.injEq, exists_eq_left', exists_eq_left, true_implies, false_implies, and_true, true_and, reduceCtorEq, Bool.not_true, Bool.not_false, Bool.false_eq_true, implies_true]; exact ⟨by decide, st⟩
  · subst e
    rw [List.take_length] at me ez
    have us : unk s ≤ 300 := Nat.le_trans unk_le sh.ln
    have sl : ws.sum < 2 ^ 25 := Nat.lt_trans (wt.sum_lt ok.k4) (by decide)
    rcases ez with rfl | rfl
    all_goals
      simp only [rho0, List.map_cons, List.map_nil, List.length_cons, List.length_nil, List.cons_append, List.nil_append, List.replicate, Nat.sub_self, Nat.add_sub_cancel, dVar, dLook, dOp, dOpE, dMapB, dChain, dTst, dAnd, dOr, dNot, dAndV, dOrV, dNotV, dIf, dNil, dCons, bNil, bCons, dTup, dLst, dCB, dCall, sFor, dEnum, gTupD, gsCons, gsNil, gSet, dAct, dLc, dIlst, dItup, wipeR, dYes, dProp, dFld, dRng1, dIsC, Dc.rdAll, rdNe, rdEq, scalD, List.length_map, sFldD, dLst, dRng2, capS, lamL, rhoF, capSl, dDc, dDcN, sPutM, sPut, sdD, sdN, dDm, dMt, mdAppend, mdPop, dDk, sPar, sSeq, sIf, sRet, sSet, sExpr, sNext, sNever, vSh, vOw, dK1, dIsi, dIsi2, isD, rdI0, rdI, List.getElem?_cons_zero, List.getElem?_cons_succ, Nat.reduceAdd, Nat.reduceSub, List.set_cons_zero, List.set_cons_succ, Option.some.injEq, exists_eq_left', exists_eq_left, true_implies, false_implies, and_true, true_and, reduceCtorEq, Bool.not_true, Bool.not_false, Bool.false_eq_true, implies_true]
      refine rd_sum ⟨okw1 na.ok, by rw [sizeLine_eq]; have := sh.ln; omega, fun i acc => acc.length = unk (s.take i), rfl, fun i x acc hx e => ?_, fun acc e => ?_⟩
      · obtain ⟨it, hi, rfl⟩ := getMap hx
        refine ⟨by decide, fun hb => ?_, fun hb => ?_⟩
        · show (acc ++ [_]).length = _
          rw [unk_take hi, List.length_append, e]
          cases it with
          | none => rfl
          | some k => cases hb
        · show acc.length = _
          rw [unk_take hi, e]
          cases it with
          | none => cases hb
          | some k => rfl
      · have e2 : acc.length = unk s := by rw [e, List.take_length]
        exact len_l e2 ⟨ws.sum, unk s, rfl, sl, us, by decide, h qs nd me⟩
end
end K33

namespace K33
open PySem PySem.Spec PyProof.Rows L2 Dc
variable [TabsT]
section
variable {P : Program} {KV : KW} (G : Gc P KV)
/-! words, shares -/
theorem not_take {l : List Nat} (so : l.Nodup) {i n : Nat} (h : l[i]? = some n) : n ∉ l.take i := fun z => by
  have e := List.take_append_drop i l
  obtain ⟨hi, hv⟩ := List.getElem?_eq_some_iff.mp h
  rw [← e, List.nodup_append] at so
  refine so.2.2 n z n ?_ rfl
  rw [List.drop_eq_getElem_cons hi, hv]
  exact List.mem_cons_self ..
theorem dk_snocK {l : List Nat} (so : l.Nodup) {i n : Nat} (h : l[i]? = some n) : dputK ((l.take i).map kI) (.inl (n : Int)) = (l.take (i + 1)).map kI := by
  rw [dputK_map, takeS h]
  unfold nput
  rw [if_neg (not_take so h)]
theorem dk_snocX {l : List Nat} {f : Nat → D} (so : l.Nodup) {i n : Nat} (h : l[i]? = some n) : dputX ((l.take i).map kI) ((l.take i).map f) (.inl (n : Int)) (f n) = (l.take (i + 1)).map f := by
  rw [dputX_map, takeS h]
  unfold nput
  rw [if_neg (not_take so h)]
  refine List.map_congr_left fun x _ => ?_
  by_cases e : x = n
  · rw [if_pos e, e]
  · rw [if_neg e]
theorem get_in {ns : List Nat} {f : Nat → D} {n : Nat} {Q : D → Prop} (h : n ∈ ns) (q : Q (f n)) : rdDK (.dk (ns.map kI) (ns.map f)) (natD n) Q := ⟨_, f n, rfl, by rw [getD'_map, if_pos h], q⟩
theorem keys_len {W : Wt} {K : Nat} (ok : W.Ok K) {xs : List Nat} {φ : Nat → Prop} (nd : xs.Nodup) (me : ∀ x, x ∈ xs ↔ ∃ p, φ p ∧ wo W p = x) (lt : ∀ p, φ p → p < W.mv.length) : xs.length ≤ 4 :=
  nd_len nd fun x hx => by
    obtain ⟨p, hp, e⟩ := (me x).mp hx
    have := wo_le ok (lt p hp)
    omega
theorem srt_mid {ns : List Nat} {acc : List D} {Q : D → Prop} (nd : ns.Nodup) (hl : ns.length ≤ sizeLine) (h : ∀ ss : List Nat, ss.Pairwise (· < ·) → (∀ x, x ∈ ss ↔ x ∈ ns) → ss.length = ns.length → Q (lsD ss)) : rdSrtD [.dk (ns.map kI) acc] Q := by
  obtain ⟨ok, qs, e, so, m⟩ := sort_nats nd hl
  show SortOk ((ns.map kI).map keyD) ∧ Q (.lst (((ns.map kI).map keyD).mergeSort leD))
  have e2 := congrArg List.length e
  rw [List.length_mergeSort, List.length_map, List.length_map] at e2
  rw [keyD_map, e]
  exact ⟨ok, h qs so m e2.symm⟩
theorem rd_words_by (h1 : G.S_numbers_by = S_numbers_by G.C) (h2 : G.S_words = S_words G.C) : Rd (S_words_by G.C) (d_words_by G) N_words_by.length := by
  rintro _ Q ⟨W, K, s, ws, ok, wt, sh, rfl, h⟩
  simp only [d_words_by, N_words_by, h1, h2]
  unfold sAsg
  simp only [rho0, List.map_cons, List.map_nil, List.length_cons, List.length_nil, List.cons_append, List.nil_append, List.replicate, Nat.sub_self, Nat.add_sub_cancel, dVar, dLook, dOp, dOpE, dMapB, dChain, dTst, dAnd, dOr, dNot, dAndV, dOrV, dNotV, dIf, dNil, dCons, bNil, bCons, dTup, dLst, dCB, dCall, sFor, dEnum, gTupD, gsCons, gsNil, gSet, dAct, dLc, dIlst, dItup, wipeR, dYes, dProp, dFld, dRng1, dIsC, Dc.rdAll, rdNe, rdEq, scalD, List.length_map, sFldD, dLst, dRng2, capS, lamL, rhoF, capSl, dDc, dDcN, sPutM, sPut, sdD, sdN, dDm, dMt, mdAppend, mdPop, dDk, sPar, sSeq, sIf, sRet, sSet, sExpr, sNext, sNever, vSh, vOw, dK1, dIsi, dIsi2, isD, rdI0, rdI, List.getElem?_cons_zero, List.getElem?_cons_succ, Nat.reduceAdd, Nat.reduceSub, List.set_cons_zero, List.set_cons_succ, Option.some.injEq, exists_eq_left', exists_eq_left, true_implies, false_implies, and_true, true_and, reduceCtorEq, Bool.not_true, Bool.not_false, Bool.false_eq_true, implies_true]
  refine ⟨W, K, s, ws, ok, wt, sh, rfl, fun qs nd me => ⟨rfl, by decide, by decide, _, _, rfl, ?_⟩⟩
  have hlt := ledW_lt ok sh.kd
  have qlt : ∀ p ∈ qs, p < W.mv.length := fun p hp => hlt p ((me p).mp hp)
  have fz : ∀ p, p ∉ qs → numW W ws K s p = 0 := fun p hp => by
    rcases Nat.eq_zero_or_pos (numW W ws K s p) with e | e
    · exact e
    · exact absurd ((me p).mpr ((numW_led ok wt sh.kd p).mp e)) hp
  refine ⟨fun i ρ => ∃ xs g a b, ρ = [.sh (wD G.C W), .sh (shD s), .sh (lsD ws), .sh (dkF qs (numW W ws K s)), .sh (natD (ws.sum ^ unk s)), .ow (dkF xs g), a, b, .no] ∧ xs.Nodup ∧ (∀ x, x ∉ xs → g x = 0) ∧ (∀ x, x ∈ xs ↔ ∃ p, p ∈ qs.take i ∧ wo W p = x) ∧ ∀ x, g x = sumN (qs.take i) fun p => if wo W p = x then numW W ws K s p else 0,
    ⟨[], fun _ => 0, _, _, rfl, by simp, fun _ _ => rfl, by simp, fun _ => rfl⟩, fun i x ρ hx ⟨xs, g, a, b, e, nd', ze, me', va⟩ => ?_, fun ρ ⟨xs, g, a, b, e, nd', ze, me', va⟩ => ?_⟩
  · rw [items_map] at hx
    obtain ⟨n, hn, rfl⟩ := getMap hx
    subst e
    have hp := qlt n (mem_of hn)
    unfold dGet2
    simp only [rho0, List.map_cons, List.map_nil, List.length_cons, List.length_nil, List.cons_append, List.nil_append, List.replicate, Nat.sub_self, Nat.add_sub_cancel, dVar, dLook, dOp, dOpE, dMapB, dChain, dTst, dAnd, dOr, dNot, dAndV, dOrV, dNotV, dIf, dNil, dCons, bNil, bCons, dTup, dLst, dCB, dCall, sFor, dEnum, gTupD, gsCons, gsNil, gSet, dAct, dLc, dIlst, dItup, wipeR, dYes, dProp, dFld, dRng1, dIsC, Dc.rdAll, rdNe, rdEq, scalD, List.length_map, sFldD, dLst, dRng2, capS, lamL, rhoF, capSl, dDc, dDcN, sPutM, sPut, sdD, sdN, dDm, dMt, mdAppend, mdPop, dDk, sPar, sSeq, sIf, sRet, sSet, sExpr, sNext, sNever, vSh, vOw, dK1, dIsi, dIsi2, isD, rdI0, rdI, List.getElem?_cons_zero, List.getElem?_cons_succ, Nat.reduceAdd, Nat.reduceSub, List.set_cons_zero, List.set_cons_succ, Option.some.injEq, exists_eq_left', exists_eq_left, true_implies, false_implies, and_true, true_and, reduceCtorEq, Bool.not_true, Bool.not_false, Bool.false_eq_true, implies_true]
    refine ⟨by decide, by decide, ⟨_, _, rfl⟩, W, rfl, ix_tup (wo_at ok hp) ⟨_, rfl, ?_⟩⟩
    rw [get_zero ze]
    refine ⟨⟨_, rfl⟩, ⟨_, _, rfl⟩, W, rfl, ix_tup (wo_at ok hp) ⟨_, rfl, _, rfl, ?_, nput xs (wo W n), bump g (wo W n) (numW W ws K s n), .sh (natD n), .sh (natD (numW W ws K s n)), ?_, nput_nd nd', bump_zero ze, fun x => ?_, fun x => ?_⟩⟩
    · have := keys_len ok nd' me' fun p hp => qlt p (List.mem_of_mem_take hp)
      rw [sizeLine_eq, List.length_map]; omega
    · rw [dputK_map]
      dsimp only
      rw [← Int.natCast_add, put_bump]
    · rw [nput_mem, me' x, takeS hn]
      constructor
      · rintro (⟨p, hp, e⟩ | e)
        · exact ⟨p, List.mem_append_left _ hp, e⟩
        · exact ⟨n, by simp, e.symm⟩
      · rintro ⟨p, hp, e⟩
        rcases List.mem_append.mp hp with z | z
        · exact .inl ⟨p, z, e⟩
        · simp at z; subst z; exact .inr e.symm
    · unfold bump
      rw [takeS hn, sumN_append, sumN_one, va x]
      by_cases e : x = wo W n
      · rw [if_pos e, if_pos e.symm]
      · rw [if_neg e, if_neg (Ne.symm e), Nat.add_zero]
  · subst e
    rw [items_map, List.length_map, List.take_length] at me' va
    have eg : g = wordW W (numW W ws K s) := funext fun x => by
      rw [va x]
      exact sumN_range nd qlt fun p hp => by rw [fz p hp, ite_self]
    subst eg
    simp only [rho0, List.map_cons, List.map_nil, List.length_cons, List.length_nil, List.cons_append, List.nil_append, List.replicate, Nat.sub_self, Nat.add_sub_cancel, dVar, dLook, dOp, dOpE, dMapB, dChain, dTst, dAnd, dOr, dNot, dAndV, dOrV, dNotV, dIf, dNil, dCons, bNil, bCons, dTup, dLst, dCB, dCall, sFor, dEnum, gTupD, gsCons, gsNil, gSet, dAct, dLc, dIlst, dItup, wipeR, dYes, dProp, dFld, dRng1, dIsC, Dc.rdAll, rdNe, rdEq, scalD, List.length_map, sFldD, dLst, dRng2, capS, lamL, rhoF, capSl, dDc, dDcN, sPutM, sPut, sdD, sdN, dDm, dMt, mdAppend, mdPop, dDk, sPar, sSeq, sIf, sRet, sSet, sExpr, sNext, sNever, vSh, vOw, dK1, dIsi, dIsi2, isD, rdI0, rdI, List.getElem?_cons_zero, List.getElem?_cons_succ, Nat.reduceAdd, Nat.reduceSub, List.set_cons_zero, List.set_cons_succ, Option.some.injEq, exists_eq_left', exists_eq_left, true_implies, false_implies, and_true, true_and, reduceCtorEq, Bool.not_true, Bool.not_false, Bool.false_eq_true, implies_true]
    have l4 := keys_len ok nd' me' qlt
    refine srt_mid nd' (by rw [sizeLine_eq]; omega) fun ss sp ms sl0 => ?_
    dsimp only
    have sd : ss.Nodup := sp.imp fun h => Nat.ne_of_lt h
    refine ⟨okw1 (by simp), by rw [sizeLine_eq, List.length_map]; omega, fun i ks acc => ks = (ss.take i).map kI ∧ acc = (ss.take i).map fun n => natD (wordW W (numW W ws K s) n), ⟨rfl, rfl⟩, fun i x ks acc hx ⟨e1, e2⟩ => ?_, fun ks acc ⟨e1, e2⟩ => ?_⟩
    · obtain ⟨n, hn, rfl⟩ := getMap hx
      subst e1 e2
      refine ⟨by decide, get_in ((ms n).mp (mem_of hn)) ⟨_, rfl, ?_, ?_⟩⟩
      · exact dk_snocK sd hn
      · exact dk_snocX (f := fun n => natD (wordW W (numW W ws K s) n)) sd hn
    · subst e1 e2
      rw [List.length_map, List.take_length]
      refine ⟨by decide, h ss ⟨sp, fun x => ?_⟩⟩
      rw [ms x, me' x]
      exact ⟨fun ⟨p, hp, e⟩ => ⟨p, (me p).mp hp, e⟩, fun ⟨p, hp, e⟩ => ⟨p, (me p).mpr hp, e⟩⟩
end
end K33

namespace K33
open PySem PySem.Spec PyProof.Rows L2 Dc
variable [TabsT]
section
variable {P : Program} {KV : KW} (G : Gc P KV)
theorem rd_odds_by (h1 : G.S_words_by = S_words_by G.C) (h2 : G.S_fraction_of = S_fraction_of) : Rd (S_odds_by G.C) (d_odds_by G) N_odds_by.length := by
  rintro _ Q ⟨W, K, s, ws, ok, wt, sh, rfl, h⟩
  simp only [d_odds_by, N_odds_by, h1, h2]
  unfold sAsg
  simp only [rho0, List.map_cons, List.map_nil, List.length_cons, List.length_nil, List.cons_append, List.nil_append, List.replicate, Nat.sub_self, Nat.add_sub_cancel, dVar, dLook, dOp, dOpE, dMapB, dChain, dTst, dAnd, dOr, dNot, dAndV, dOrV, dNotV, dIf, dNil, dCons, bNil, bCons, dTup, dLst, dCB, dCall, sFor, dEnum, gTupD, gsCons, gsNil, gSet, dAct, dLc, dIlst, dItup, wipeR, dYes, dProp, dFld, dRng1, dIsC, Dc.rdAll, rdNe, rdEq, scalD, List.length_map, sFldD, dLst, dRng2, capS, lamL, rhoF, capSl, dDc, dDcN, sPutM, sPut, sdD, sdN, dDm, dMt, mdAppend, mdPop, dDk, sPar, sSeq, sIf, sRet, sSet, sExpr, sNext, sNever, vSh, vOw, dK1, dIsi, dIsi2, isD, rdI0, rdI, List.getElem?_cons_zero, List.getElem?_cons_succ, Nat.reduceAdd, Nat.reduceSub, List.set_cons_zero, List.set_cons_succ, Option.some.injEq, exists_eq_left', exists_eq_left, true_implies, false_implies, and_true, true_and, reduceCtorEq, Bool.not_true, Bool.not_false, Bool.false_eq_true, implies_true]
  refine ⟨W, K, s, ws, ok, wt, sh, rfl, fun qs hq => ⟨rfl, by decide, by decide, _, _, rfl, ?_⟩⟩
  have hlt := ledW_lt ok sh.kd
  have nd : qs.Nodup := hq.so.imp fun h => Nat.ne_of_lt h
  have l4 := keys_len ok nd hq.me hlt
  have w0 : 0 < ws.sum ^ unk s := Nat.pow_pos (wt.sum_pos ok.k1)
  have wl : ws.sum ^ unk s < 2 ^ 8400 := Nat.lt_trans (whole_lt wt ok.k4 sh.ln) (Nat.pow_lt_pow_right (by decide) (by decide))
  rw [items_map]
  refine ⟨?_, by rw [sizeLine_eq, List.length_map]; omega, fun i ks acc => ks = (qs.take i).map kI ∧ acc = (qs.take i).map fun n => frD (wordW W (numW W ws K s) n) (ws.sum ^ unk s), ⟨rfl, rfl⟩, fun i x ks acc hx ⟨e1, e2⟩ => ?_, fun ks acc ⟨e1, e2⟩ => ?_⟩
  · intro j hj d
    simp only [List.mem_cons, List.not_mem_nil, or_false] at hj
    rcases hj with rfl | rfl <;> simp
  · obtain ⟨n, hn, rfl⟩ := getMap hx
    subst e1 e2
    simp only [rho0, List.map_cons, List.map_nil, List.length_cons, List.length_nil, List.cons_append, List.nil_append, List.replicate, Nat.sub_self, Nat.add_sub_cancel, dVar, dLook, dOp, dOpE, dMapB, dChain, dTst, dAnd, dOr, dNot, dAndV, dOrV, dNotV, dIf, dNil, dCons, bNil, bCons, dTup, dLst, dCB, dCall, sFor, dEnum, gTupD, gsCons, gsNil, gSet, dAct, dLc, dIlst, dItup, wipeR, dYes, dProp, dFld, dRng1, dIsC, Dc.rdAll, rdNe, rdEq, scalD, List.length_map, sFldD, dLst, dRng2, capS, lamL, rhoF, capSl, dDc, dDcN, sPutM, sPut, sdD, sdN, dDm, dMt, mdAppend, mdPop, dDk, sPar, sSeq, sIf, sRet, sSet, sExpr, sNext, sNever, vSh, vOw, dK1, dIsi, dIsi2, isD, rdI0, rdI, List.getElem?_cons_zero, List.getElem?_cons_succ, Nat.reduceAdd, Nat.reduceSub, List.set_cons_zero, List.set_cons_succ, Option.some.injEq, exists_eq_left', exists_eq_left, true_implies, false_implies, and_true, true_and, reduceCtorEq, Bool.not_true, Bool.not_false, Bool.false_eq_true, implies_true]
    refine ⟨by decide, by decide, _, _, rfl, w0, wl, _, rfl, ?_, ?_⟩
    · exact dk_snocK nd hn
    · exact dk_snocX (f := fun n => frD (wordW W (numW W ws K s) n) (ws.sum ^ unk s)) nd hn
  · subst e1 e2
    rw [List.length_map, List.take_length]
    exact h qs hq
theorem rd_odds (h1 : G.S_need_odds = S_need_odds G.C) (h2 : G.S_odds_by = S_odds_by G.C) : Rd (S_odds G.C) (d_odds G) N_odds.length := by
  rintro _ Q ⟨W, K, s, ws, ok, wt, sh, rfl, h⟩
  simp only [d_odds, N_odds, h1, h2]
  simp only [rho0, List.map_cons, List.map_nil, List.length_cons, List.length_nil, List.cons_append, List.nil_append, List.replicate, Nat.sub_self, Nat.add_sub_cancel, dVar, dLook, dOp, dOpE, dMapB, dChain, dTst, dAnd, dOr, dNot, dAndV, dOrV, dNotV, dIf, dNil, dCons, bNil, bCons, dTup, dLst, dCB, dCall, sFor, dEnum, gTupD, gsCons, gsNil, gSet, dAct, dLc, dIlst, dItup, wipeR, dYes, dProp, dFld, dRng1, dIsC, Dc.rdAll, rdNe, rdEq, scalD, List.length_map, sFldD, dLst, dRng2, capS, lamL, rhoF, capSl, dDc, dDcN, sPutM, sPut, sdD, sdN, dDm, dMt, mdAppend, mdPop, dDk, sPar, sSeq, sIf, sRet, sSet, sExpr, sNext, sNever, vSh, vOw, dK1, dIsi, dIsi2, isD, rdI0, rdI, List.getElem?_cons_zero, List.getElem?_cons_succ, Nat.reduceAdd, Nat.reduceSub, List.set_cons_zero, List.set_cons_succ, Option.some.injEq, exists_eq_left', exists_eq_left, true_implies, false_implies, and_true, true_and, reduceCtorEq, Bool.not_true, Bool.not_false, Bool.false_eq_true, implies_true]
  exact ⟨W, K, s, ws, ok, sh, wt, rfl, W, K, s, ws, ok, wt, sh, rfl, h⟩
theorem first_of {ns : List Nat} {f : Nat → Nat} {m w0 : Nat} (so : ns.Pairwise (· < ·)) (h : w0 ∈ ns) (e : f w0 = m) (top : ∀ j ∈ ns, f j ≤ m) : ∃ w l, ns.filter (fun n => decide (f n = m)) = w :: l ∧ w ∈ ns ∧ f w = m ∧ ∀ j ∈ ns, j < w → f j < m := by
  have h1 : w0 ∈ ns.filter fun n => decide (f n = m) := List.mem_filter.mpr ⟨h, by simpa using e⟩
  have sf : (ns.filter fun n => decide (f n = m)).Pairwise (· < ·) := so.filter _
  cases q : ns.filter fun n => decide (f n = m) with
  | nil => rw [q] at h1; cases h1
  | cons w l =>
    have hw : w ∈ ns.filter fun n => decide (f n = m) := by rw [q]; exact List.mem_cons_self ..
    obtain ⟨a, b⟩ := List.mem_filter.mp hw
    refine ⟨w, l, rfl, a, by simpa using b, fun j hj hlt => ?_⟩
    have t := top j hj
    by_cases z : f j = m
    · have hj2 : j ∈ ns.filter fun n => decide (f n = m) := List.mem_filter.mpr ⟨hj, by simpa using z⟩
      rw [q] at hj2 sf
      rcases List.mem_cons.mp hj2 with e | e
      · omega
      · have := (List.pairwise_cons.mp sf).1 j e; omega
    · omega
theorem rd_greatest_of : Rd S_greatest_of (d_greatest_of G) N_greatest_of.length := by
  rintro _ Q ⟨ns, f, rfl, so, ne, hl, h⟩
  simp only [d_greatest_of, N_greatest_of]
  unfold dMaxV
  simp only [rho0, List.map_cons, List.map_nil, List.length_cons, List.length_nil, List.cons_append, List.nil_append, List.replicate, Nat.sub_self, Nat.add_sub_cancel, dVar, dLook, dOp, dOpE, dMapB, dChain, dTst, dAnd, dOr, dNot, dAndV, dOrV, dNotV, dIf, dNil, dCons, bNil, bCons, dTup, dLst, dCB, dCall, sFor, dEnum, gTupD, gsCons, gsNil, gSet, dAct, dLc, dIlst, dItup, wipeR, dYes, dProp, dFld, dRng1, dIsC, Dc.rdAll, rdNe, rdEq, scalD, List.length_map, sFldD, dLst, dRng2, capS, lamL, rhoF, capSl, dDc, dDcN, sPutM, sPut, sdD, sdN, dDm, dMt, mdAppend, mdPop, dDk, sPar, sSeq, sIf, sRet, sSet, sExpr, sNext, sNever, vSh, vOw, dK1, dIsi, dIsi2, isD, rdI0, rdI, List.getElem?_cons_zero, List.getElem?_cons_succ, Nat.reduceAdd, Nat.reduceSub, List.set_cons_zero, List.set_cons_succ, Option.some.injEq, exists_eq_left', exists_eq_left, true_implies, false_implies, and_true, true_and, reduceCtorEq, Bool.not_true, Bool.not_false, Bool.false_eq_true, implies_true]
  have nd : ns.Nodup := so.imp fun h => Nat.ne_of_lt h
  refine ⟨ns.map fun n => (f n : Int), by rw [List.map_map]; rfl, by simpa using ne, fun m hm top => ?_⟩
  obtain ⟨w0, hw0, em⟩ := List.mem_map.mp hm
  subst em
  have top' : ∀ j ∈ ns, f j ≤ f w0 := fun j hj => by
    have := top (f j) (List.mem_map.mpr ⟨j, hj, rfl⟩)
    omega
  refine ⟨_, _, rfl, ?_⟩
  rw [keyD_map]
  refine ⟨okw1 (by simp), by rw [sizeLine_eq, List.length_map]; omega, fun i acc => acc = ((ns.take i).filter fun n => decide (f n = f w0)).map natD, rfl, fun i x acc hx e => ?_, fun acc e => ?_⟩
  · obtain ⟨n, hn, rfl⟩ := getMap hx
    subst e
    refine ⟨by decide, get_in (mem_of hn) ?_⟩
    have ed : decide (((f n : Nat) : Int) = ((f w0 : Nat) : Int)) = decide (f n = f w0) := decide_eq_decide.mpr (by omega)
    show (decide (((f n : Nat) : Int) = ((f w0 : Nat) : Int)) = true → _) ∧ (decide (((f n : Nat) : Int) = ((f w0 : Nat) : Int)) = false → _)
    rw [ed]
    dsimp only
    rw [takeS hn, List.filter_append, List.filter_cons]
    refine ⟨fun hb => ?_, fun hb => ?_⟩
    · rw [hb, if_pos rfl, List.map_append]; rfl
    · rw [hb, if_neg (by decide), List.map_append]; simp
  · subst e
    rw [List.length_map, List.take_length]
    obtain ⟨w, l, e, hw, ew, lt⟩ := first_of (f := f) so hw0 rfl top'
    rw [e]
    refine ⟨natD w, atI_map (l := w :: l) (j := 0) rfl, by decide, ?_⟩
    rw [← ew] at lt top' ⊢
    exact h w hw top' lt
theorem rd_with_item : Rd S_with_item (d_with_item G) N_with_item.length := by
  rintro _ Q ⟨s, p, k, rfl, hl, h⟩
  simp only [d_with_item, N_with_item]
  simp only [rho0, List.map_cons, List.map_nil, List.length_cons, List.length_nil, List.cons_append, List.nil_append, List.replicate, Nat.sub_self, Nat.add_sub_cancel, dVar, dLook, dOp, dOpE, dMapB, dChain, dTst, dAnd, dOr, dNot, dAndV, dOrV, dNotV, dIf, dNil, dCons, bNil, bCons, dTup, dLst, dCB, dCall, sFor, dEnum, gTupD, gsCons, gsNil, gSet, dAct, dLc, dIlst, dItup, wipeR, dYes, dProp, dFld, dRng1, dIsC, Dc.rdAll, rdNe, rdEq, scalD, List.length_map, sFldD, dLst, dRng2, capS, lamL, rhoF, capSl, dDc, dDcN, sPutM, sPut, sdD, sdN, dDm, dMt, mdAppend, mdPop, dDk, sPar, sSeq, sIf, sRet, sSet, sExpr, sNext, sNever, vSh, vOw, dK1, dIsi, dIsi2, isD, rdI0, rdI, List.getElem?_cons_zero, List.getElem?_cons_succ, Nat.reduceAdd, Nat.reduceSub, List.set_cons_zero, List.set_cons_succ, Option.some.injEq, exists_eq_left', exists_eq_left, true_implies, false_implies, and_true, true_and, reduceCtorEq, Bool.not_true, Bool.not_false, Bool.false_eq_true, implies_true]
  refine ⟨?_, ?_, fun i acc => acc = ((s.set p (some k)).take i).map itD, rfl, fun i x acc hx e => ?_, fun acc e => ?_⟩
  · intro j hj d
    simp only [List.mem_cons, List.not_mem_nil, or_false] at hj
    rcases hj with rfl | rfl <;> simp
  · unfold enumD
    rw [sizeLine_eq, List.length_map, List.length_zipIdx, List.length_map]; omega
  · obtain ⟨it, hi, rfl⟩ := getEnum hx
    subst e
    simp only [rho0, List.map_cons, List.map_nil, List.length_cons, List.length_nil, List.cons_append, List.nil_append, List.replicate, Nat.sub_self, Nat.add_sub_cancel, dVar, dLook, dOp, dOpE, dMapB, dChain, dTst, dAnd, dOr, dNot, dAndV, dOrV, dNotV, dIf, dNil, dCons, bNil, bCons, dTup, dLst, dCB, dCall, sFor, dEnum, gTupD, gsCons, gsNil, gSet, dAct, dLc, dIlst, dItup, wipeR, dYes, dProp, dFld, dRng1, dIsC, Dc.rdAll, rdNe, rdEq, scalD, List.length_map, sFldD, dLst, dRng2, capS, lamL, rhoF, capSl, dDc, dDcN, sPutM, sPut, sdD, sdN, dDm, dMt, mdAppend, mdPop, dDk, sPar, sSeq, sIf, sRet, sSet, sExpr, sNext, sNever, vSh, vOw, dK1, dIsi, dIsi2, isD, rdI0, rdI, List.getElem?_cons_zero, List.getElem?_cons_succ, Nat.reduceAdd, Nat.reduceSub, List.set_cons_zero, List.set_cons_succ, Option.some.injEq, exists_eq_left', exists_eq_left, true_implies, false_implies, and_true, true_and, reduceCtorEq, Bool.not_true, Bool.not_false, Bool.false_eq_true, implies_true]
    have hil := (List.getElem?_eq_some_iff.mp hi).1
    have ed : decide (((i : Nat) : Int) = ((p : Nat) : Int)) = decide (i = p) := decide_eq_decide.mpr (by omega)
    rw [ed]
    refine ⟨by decide, by decide, fun hb => ?_, fun hb => ?_⟩
    · have e := of_decide_eq_true hb
      subst e
      rw [takeS (a := some k) (List.getElem?_set_self hil), List.map_append]
      rfl
    · have e := of_decide_eq_false hb
      rw [takeS (a := it) ((List.getElem?_set_ne (Ne.symm e)).trans hi), List.map_append]
      rfl
  · subst e
    have el : (enumD (s.map itD)).length = (s.set p (some k)).length := by
      unfold enumD
      rw [List.length_map, List.length_zipIdx, List.length_map, List.length_set]
    rw [el, List.take_length]
    exact h
theorem wds_ne {W : Wt} {K : Nat} {ws : List Nat} (ok : W.Ok K) (wt : Wts K ws) {s : List (Option Nat)} (sh : Sh K s) : ∃ y, wdsP W K s y := by
  have h : 0 < sumN (List.range W.mv.length) (numW W ws K s) := by
    rw [numW_sum ok wt.ln sh.kd]
    exact Nat.pow_pos (wt.sum_pos ok.k1)
  obtain ⟨p, _, hp⟩ := sumN_pos.mp h
  exact ⟨_, p, (numW_led ok wt sh.kd p).mp hp, rfl⟩
theorem rd_guessed_by (h1 : G.S_words_by = S_words_by G.C) (h2 : G.S_with_item = S_with_item) (h3 : G.S_greatest_of = S_greatest_of) (h4 : G.S_fraction_of = S_fraction_of) : Rd (S_guessed_by G.C) (d_guessed_by G) N_guessed_by.length := by
  rintro _ Q ⟨W, K, s, ws, p, ok, wt, sh, hp, rfl, h⟩
  simp only [d_guessed_by, N_guessed_by, h1, h2, h3, h4]
  unfold sAsg
  simp only [rho0, List.map_cons, List.map_nil, List.length_cons, List.length_nil, List.cons_append, List.nil_append, List.replicate, Nat.sub_self, Nat.add_sub_cancel, dVar, dLook, dOp, dOpE, dMapB, dChain, dTst, dAnd, dOr, dNot, dAndV, dOrV, dNotV, dIf, dNil, dCons, bNil, bCons, dTup, dLst, dCB, dCall, sFor, dEnum, gTupD, gsCons, gsNil, gSet, dAct, dLc, dIlst, dItup, wipeR, dYes, dProp, dFld, dRng1, dIsC, Dc.rdAll, rdNe, rdEq, scalD, List.length_map, sFldD, dLst, dRng2, capS, lamL, rhoF, capSl, dDc, dDcN, sPutM, sPut, sdD, sdN, dDm, dMt, mdAppend, mdPop, dDk, sPar, sSeq, sIf, sRet, sSet, sExpr, sNext, sNever, vSh, vOw, dK1, dIsi, dIsi2, isD, rdI0, rdI, List.getElem?_cons_zero, List.getElem?_cons_succ, Nat.reduceAdd, Nat.reduceSub, List.set_cons_zero, List.set_cons_succ, Option.some.injEq, exists_eq_left', exists_eq_left, true_implies, false_implies, and_true, true_and, reduceCtorEq, Bool.not_true, Bool.not_false, Bool.false_eq_true, implies_true]
  refine ⟨by decide, by decide, by decide, fun i ρ => ∃ wh a b c, ρ = [.sh (wD G.C W), .sh (shD s), .sh (lsD ws), .sh (natD p), .sh (natD (sumN (List.range i) fun k => ws.getD k 0 * bestW W ws K (s.set p (some k)))), .sh (natD wh), a, b, c] ∧ (i = 0 ∨ wh = ws.sum ^ (unk s - 1)), ⟨1, _, _, _, rfl, .inl rfl⟩, fun i x ρ hx ⟨wh, a, b, c, e, ew⟩ => ?_, fun ρ ⟨wh, a, b, c, e, ew⟩ => ?_⟩
  · obtain ⟨w, hw, rfl⟩ := getEnum hx
    subst e
    simp only [rho0, List.map_cons, List.map_nil, List.length_cons, List.length_nil, List.cons_append, List.nil_append, List.replicate, Nat.sub_self, Nat.add_sub_cancel, dVar, dLook, dOp, dOpE, dMapB, dChain, dTst, dAnd, dOr, dNot, dAndV, dOrV, dNotV, dIf, dNil, dCons, bNil, bCons, dTup, dLst, dCB, dCall, sFor, dEnum, gTupD, gsCons, gsNil, gSet, dAct, dLc, dIlst, dItup, wipeR, dYes, dProp, dFld, dRng1, dIsC, Dc.rdAll, rdNe, rdEq, scalD, List.length_map, sFldD, dLst, dRng2, capS, lamL, rhoF, capSl, dDc, dDcN, sPutM, sPut, sdD, sdN, dDm, dMt, mdAppend, mdPop, dDk, sPar, sSeq, sIf, sRet, sSet, sExpr, sNext, sNever, vSh, vOw, dK1, dIsi, dIsi2, isD, rdI0, rdI, List.getElem?_cons_zero, List.getElem?_cons_succ, Nat.reduceAdd, Nat.reduceSub, List.set_cons_zero, List.set_cons_succ, Option.some.injEq, exists_eq_left', exists_eq_left, true_implies, false_implies, and_true, true_and, reduceCtorEq, Bool.not_true, Bool.not_false, Bool.false_eq_true, implies_true]
    have hi : i < K := by rw [← wt.ln]; exact (List.getElem?_eq_some_iff.mp hw).1
    have sh2 : Sh K (s.set p (some i)) := sh.set hi
    have us := unk_set (k := i) hp
    refine ⟨by decide, by decide, s, p, i, rfl, sh.ln, W, K, _, ws, ok, wt, sh2, rfl, fun qs hq => ⟨rfl, by decide, by decide, ?_⟩⟩
    unfold sAugI
    simp only [rho0, List.map_cons, List.map_nil, List.length_cons, List.length_nil, List.cons_append, List.nil_append, List.replicate, Nat.sub_self, Nat.add_sub_cancel, dVar, dLook, dOp, dOpE, dMapB, dChain, dTst, dAnd, dOr, dNot, dAndV, dOrV, dNotV, dIf, dNil, dCons, bNil, bCons, dTup, dLst, dCB, dCall, sFor, dEnum, gTupD, gsCons, gsNil, gSet, dAct, dLc, dIlst, dItup, wipeR, dYes, dProp, dFld, dRng1, dIsC, Dc.rdAll, rdNe, rdEq, scalD, List.length_map, sFldD, dLst, dRng2, capS, lamL, rhoF, capSl, dDc, dDcN, sPutM, sPut, sdD, sdN, dDm, dMt, mdAppend, mdPop, dDk, sPar, sSeq, sIf, sRet, sSet, sExpr, sNext, sNever, vSh, vOw, dK1, dIsi, dIsi2, isD, rdI0, rdI, List.getElem?_cons_zero, List.getElem?_cons_succ, Nat.reduceAdd, Nat.reduceSub, List.set_cons_zero, List.set_cons_succ, Option.some.injEq, exists_eq_left', exists_eq_left, true_implies, false_implies, and_true, true_and, reduceCtorEq, Bool.not_true, Bool.not_false, Bool.false_eq_true, implies_true]
    have nd : qs.Nodup := hq.so.imp fun h => Nat.ne_of_lt h
    have l4 := keys_len ok nd hq.me (ledW_lt ok sh2.kd)
    obtain ⟨y, hy⟩ := wds_ne ok wt sh2
    refine ⟨_, rfl, qs, _, rfl, hq.so, fun z => ?_, by omega, fun w1 hw1 top _ => ⟨natD (wordW W (numW W ws K (s.set p (some i))) w1), rfl, ?_⟩⟩
    · have := (hq.me y).mpr hy
      rw [z] at this; cases this
    · have eb := bestW_is ok wt sh2 ((hq.me w1).mp hw1) fun y hy => top y ((hq.me y).mpr hy)
      have b1 : w < 2 ^ 20 := by have := (wt.bd w (mem_of hw)).2; omega
      have b2 := Nat.lt_of_le_of_lt (wordW_lt ok wt sh2 w1) (whole_lt wt ok.k4 sh2.ln)
      have ew2 : ws.getD i 0 = w := by rw [List.getD_eq_getElem?_getD, hw]; rfl
      refine ⟨mulN b1 b2 (by decide) (by decide) (by decide), ws.sum ^ unk (s.set p (some i)), .sh (natD i), .sh (natD w), .sh (dkF qs (wordW W (numW W ws K (s.set p (some i))))), ?_, .inr (by rw [us])⟩
      rw [← eb, ← Int.natCast_mul, ← Int.natCast_add, List.range_succ, sumN_append, sumN_one, ew2]
  · subst e
    have el : (enumD (ws.map natD)).length = K := by
      unfold enumD
      rw [List.length_map, List.length_zipIdx, List.length_map, wt.ln]
    rw [el] at ew ⊢
    have k1 := ok.k1
    have ew : wh = ws.sum ^ (unk s - 1) := by
      rcases ew with e | e
      · omega
      · exact e
    subst ew
    simp only [rho0, List.map_cons, List.map_nil, List.length_cons, List.length_nil, List.cons_append, List.nil_append, List.replicate, Nat.sub_self, Nat.add_sub_cancel, dVar, dLook, dOp, dOpE, dMapB, dChain, dTst, dAnd, dOr, dNot, dAndV, dOrV, dNotV, dIf, dNil, dCons, bNil, bCons, dTup, dLst, dCB, dCall, sFor, dEnum, gTupD, gsCons, gsNil, gSet, dAct, dLc, dIlst, dItup, wipeR, dYes, dProp, dFld, dRng1, dIsC, Dc.rdAll, rdNe, rdEq, scalD, List.length_map, sFldD, dLst, dRng2, capS, lamL, rhoF, capSl, dDc, dDcN, sPutM, sPut, sdD, sdN, dDm, dMt, mdAppend, mdPop, dDk, sPar, sSeq, sIf, sRet, sSet, sExpr, sNext, sNever, vSh, vOw, dK1, dIsi, dIsi2, isD, rdI0, rdI, List.getElem?_cons_zero, List.getElem?_cons_succ, Nat.reduceAdd, Nat.reduceSub, List.set_cons_zero, List.set_cons_succ, Option.some.injEq, exists_eq_left', exists_eq_left, true_implies, false_implies, and_true, true_and, reduceCtorEq, Bool.not_true, Bool.not_false, Bool.false_eq_true, implies_true]
    refine rd_sum ?_
    have e : unk s = unk s - 1 + 1 := by have := unk_pos hp; omega
    have sl : ws.sum < 2 ^ 22 := wt.sum_lt ok.k4
    have b2 : ws.sum ^ (unk s - 1) < 2 ^ 6601 := Nat.lt_of_le_of_lt (pow_bd (m := 300) sl (Nat.le_trans (Nat.sub_le ..) (Nat.le_trans unk_le sh.ln))) (Nat.pow_lt_pow_right (by decide) (by decide))
    refine (show CMulW ((ws.sum ^ (unk s - 1) : Nat) : Int) ((ws.sum : Nat) : Int) ∧ _ from ⟨mulN b2 sl (by decide) (by decide) (by decide), ?_⟩)
    rw [← Int.natCast_mul, ← Nat.pow_succ, show (unk s - 1).succ = unk s from e.symm]
    exact ⟨_, _, rfl, Nat.pow_pos (wt.sum_pos k1), Nat.lt_trans (whole_lt wt ok.k4 sh.ln) (Nat.pow_lt_pow_right (by decide) (by decide)), h⟩
theorem frac_lt {u t w : Nat} (hw : 0 < w) : decide (u / u.gcd w * (w / t.gcd w) < t / t.gcd w * (w / u.gcd w)) = decide (u < t) := by
  have gu : 0 < u.gcd w := Nat.gcd_pos_of_pos_right _ hw
  have gt : 0 < t.gcd w := Nat.gcd_pos_of_pos_right _ hw
  obtain ⟨a, ha⟩ := Nat.gcd_dvd_left u w
  obtain ⟨b, hb⟩ := Nat.gcd_dvd_right u w
  obtain ⟨c, hc⟩ := Nat.gcd_dvd_left t w
  obtain ⟨d, hd⟩ := Nat.gcd_dvd_right t w
  have ea : u / u.gcd w = a := Nat.div_eq_of_eq_mul_right gu ha
  have eb : w / u.gcd w = b := Nat.div_eq_of_eq_mul_right gu hb
  have ec : t / t.gcd w = c := Nat.div_eq_of_eq_mul_right gt hc
  have ed : w / t.gcd w = d := Nat.div_eq_of_eq_mul_right gt hd
  rw [ea, eb, ec, ed]
  generalize u.gcd w = g at *
  generalize t.gcd w = k at *
  refine decide_eq_decide.mpr ?_
  have h1 : u * w = g * k * (a * d) := by rw [ha]; rw [show g * a * w = g * a * (k * d) by rw [← hd]]; ac_rfl
  have h2 : t * w = g * k * (c * b) := by rw [hc]; rw [show k * c * w = k * c * (g * b) by rw [← hb]]; ac_rfl
  have gk : 0 < g * k := Nat.mul_pos gu gt
  constructor
  · intro h
    have := Nat.mul_lt_mul_of_pos_left h gk
    rw [← h1, ← h2] at this
    exact Nat.lt_of_mul_lt_mul_right this
  · intro h
    have := Nat.mul_lt_mul_of_pos_right h hw
    rw [h1, h2] at this
    exact Nat.lt_of_mul_lt_mul_left this
theorem unk0 {s : List (Option Nat)} (h : ∀ p : Nat, s[p]? ≠ some none) : unk s = 0 := by
  unfold unk
  rw [List.length_eq_zero_iff, List.filter_eq_nil_iff]
  intro a ha
  obtain ⟨i, hi, e⟩ := List.getElem_of_mem ha
  cases a with
  | none => exact absurd (by rw [List.getElem?_eq_getElem hi, e]) (h i)
  | some k => simp
theorem rd_most_telling (h1 : G.S_need_odds = S_need_odds G.C) (h2 : G.S_guessed_by = S_guessed_by G.C) (h3 : G.S_is_above = S_is_above) : Rd (S_most_telling G.C) (d_most_telling G) N_most_telling.length := by
  rintro _ Q ⟨W, K, s, ws, ok, wt, sh, rfl, h0, h⟩
  simp only [d_most_telling, N_most_telling, h1, h2, h3]
  simp only [rho0, List.map_cons, List.map_nil, List.length_cons, List.length_nil, List.cons_append, List.nil_append, List.replicate, Nat.sub_self, Nat.add_sub_cancel, dVar, dLook, dOp, dOpE, dMapB, dChain, dTst, dAnd, dOr, dNot, dAndV, dOrV, dNotV, dIf, dNil, dCons, bNil, bCons, dTup, dLst, dCB, dCall, sFor, dEnum, gTupD, gsCons, gsNil, gSet, dAct, dLc, dIlst, dItup, wipeR, dYes, dProp, dFld, dRng1, dIsC, Dc.rdAll, rdNe, rdEq, scalD, List.length_map, sFldD, dLst, dRng2, capS, lamL, rhoF, capSl, dDc, dDcN, sPutM, sPut, sdD, sdN, dDm, dMt, mdAppend, mdPop, dDk, sPar, sSeq, sIf, sRet, sSet, sExpr, sNext, sNever, vSh, vOw, dK1, dIsi, dIsi2, isD, rdI0, rdI, List.getElem?_cons_zero, List.getElem?_cons_succ, Nat.reduceAdd, Nat.reduceSub, List.set_cons_zero, List.set_cons_succ, Option.some.injEq, exists_eq_left', exists_eq_left, true_implies, false_implies, and_true, true_and, reduceCtorEq, Bool.not_true, Bool.not_false, Bool.false_eq_true, implies_true]
  refine ⟨W, K, s, ws, ok, sh, wt, rfl, fun i ρ => ∃ z a b c, ρ = [.sh (wD G.C W), .sh (shD s), .sh (lsD ws), .sh z, a, b, c] ∧ ((z = .non ∧ ∀ p, p < i → s[p]? ≠ some none) ∨ ∃ p, p < i ∧ s[p]? = some none ∧ z = .tup [natD p, frD (topW W ws K s p) (ws.sum ^ unk s)] ∧ (∀ p', p' < i → s[p']? = some none → topW W ws K s p' ≤ topW W ws K s p) ∧ ∀ p', p' < p → s[p']? = some none → topW W ws K s p' < topW W ws K s p), ⟨_, _, _, _, rfl, .inl ⟨rfl, fun p hp => absurd hp (Nat.not_lt_zero _)⟩⟩, fun i x ρ hx ⟨z, a, b, c, e, hz⟩ => ?_, fun ρ ⟨z, a, b, c, e, hz⟩ => ?_⟩
  · obtain ⟨it, hi, rfl⟩ := getEnum hx
    subst e
    simp only [rho0, List.map_cons, List.map_nil, List.length_cons, List.length_nil, List.cons_append, List.nil_append, List.replicate, Nat.sub_self, Nat.add_sub_cancel, dVar, dLook, dOp, dOpE, dMapB, dChain, dTst, dAnd, dOr, dNot, dAndV, dOrV, dNotV, dIf, dNil, dCons, bNil, bCons, dTup, dLst, dCB, dCall, sFor, dEnum, gTupD, gsCons, gsNil, gSet, dAct, dLc, dIlst, dItup, wipeR, dYes, dProp, dFld, dRng1, dIsC, Dc.rdAll, rdNe, rdEq, scalD, List.length_map, sFldD, dLst, dRng2, capS, lamL, rhoF, capSl, dDc, dDcN, sPutM, sPut, sdD, sdN, dDm, dMt, mdAppend, mdPop, dDk, sPar, sSeq, sIf, sRet, sSet, sExpr, sNext, sNever, vSh, vOw, dK1, dIsi, dIsi2, isD, rdI0, rdI, List.getElem?_cons_zero, List.getElem?_cons_succ, Nat.reduceAdd, Nat.reduceSub, List.set_cons_zero, List.set_cons_succ, Option.some.injEq, exists_eq_left', exists_eq_left, true_implies, false_implies, and_true, true_and, reduceCtorEq, Bool.not_true, Bool.not_false, Bool.false_eq_true, implies_true]
    refine ⟨by decide, by decide, fun hb => ?_, fun hb => ?_⟩
    · have hn : it = none := by
        cases it with
        | none => rfl
        | some k => cases hb
      subst hn
      refine ⟨W, K, s, ws, i, ok, wt, sh, hi, rfl, ?_⟩
      have w0 : 0 < ws.sum ^ unk s := Nat.pow_pos (wt.sum_pos ok.k1)
      have wl : ws.sum ^ unk s < 2 ^ 6601 := whole_lt wt ok.k4 sh.ln
      have bt : ∀ p, s[p]? = some none → topW W ws K s p / (topW W ws K s p).gcd (ws.sum ^ unk s) < 2 ^ 8400 := fun p hp =>
        Nat.lt_of_le_of_lt (Nat.div_le_self ..) (Nat.lt_trans (Nat.lt_of_le_of_lt (topW_le ok wt sh hp) wl) (Nat.pow_lt_pow_right (by decide) (by decide)))
      have bw : ∀ g, ws.sum ^ unk s / g < 2 ^ 8400 := fun g => Nat.lt_of_le_of_lt (Nat.div_le_self ..) (Nat.lt_trans wl (Nat.pow_lt_pow_right (by decide) (by decide)))
      rcases hz with ⟨rfl, hz⟩ | ⟨p, hp, hs, rfl, top, fst⟩
      · refine ⟨fun _ => ⟨by decide, _, _, _, _, rfl, .inr ⟨i, by omega, hi, rfl, fun p' hp' e => ?_, fun p' hp' e => absurd e (hz p' hp')⟩⟩, fun e => (nomatch e)⟩
        by_cases z : p' = i
        · subst z; exact Nat.le_refl _
        · exact absurd e (hz p' (by omega))
      · refine ⟨fun e => (nomatch e), fun _ => ⟨_, atI_map (f := fun x => x) (l := [natD p, frD (topW W ws K s p) (ws.sum ^ unk s)]) (j := 1) rfl, _, _, _, _, rfl, bt i hi, bw _, bt p hs, bw _, ?_⟩⟩
        rw [frac_lt w0]
        refine (show (decide (topW W ws K s p < topW W ws K s i) = true → _) ∧ (decide (topW W ws K s p < topW W ws K s i) = false → _) from ⟨fun hd => ?_, fun hd => ?_⟩)
        · have hd := of_decide_eq_true hd
          refine ⟨by decide, _, _, _, _, rfl, .inr ⟨i, by omega, hi, rfl, fun p' hp' e => ?_, fun p' hp' e => ?_⟩⟩
          · by_cases z : p' = i
            · subst z; exact Nat.le_refl _
            · have := top p' (by omega) e; omega
          · have := top p' hp' e; omega
        · have hd := of_decide_eq_false hd
          refine ⟨_, _, _, _, rfl, .inr ⟨p, by omega, hs, rfl, fun p' hp' e => ?_, fst⟩⟩
          by_cases z : p' = i
          · subst z; omega
          · exact top p' (by omega) e
    · have hn : s[i]? ≠ some none := by
        rw [hi]
        cases it with
        | none => cases hb
        | some k => simp
      refine ⟨z, _, _, _, rfl, ?_⟩
      rcases hz with ⟨rfl, hz⟩ | ⟨p, hp, hs, rfl, top, fst⟩
      · refine .inl ⟨rfl, fun p hp e => ?_⟩
        by_cases z : p = i
        · subst z; exact hn e
        · exact hz p (by omega) e
      · refine .inr ⟨p, by omega, hs, rfl, fun p' hp' e => ?_, fst⟩
        by_cases z : p' = i
        · subst z; exact absurd e hn
        · exact top p' (by omega) e
  · subst e
    have el : (enumD (s.map itD)).length = s.length := by
      unfold enumD
      rw [List.length_map, List.length_zipIdx, List.length_map]
    rw [el] at hz
    simp only [rho0, List.map_cons, List.map_nil, List.length_cons, List.length_nil, List.cons_append, List.nil_append, List.replicate, Nat.sub_self, Nat.add_sub_cancel, dVar, dLook, dOp, dOpE, dMapB, dChain, dTst, dAnd, dOr, dNot, dAndV, dOrV, dNotV, dIf, dNil, dCons, bNil, bCons, dTup, dLst, dCB, dCall, sFor, dEnum, gTupD, gsCons, gsNil, gSet, dAct, dLc, dIlst, dItup, wipeR, dYes, dProp, dFld, dRng1, dIsC, Dc.rdAll, rdNe, rdEq, scalD, List.length_map, sFldD, dLst, dRng2, capS, lamL, rhoF, capSl, dDc, dDcN, sPutM, sPut, sdD, sdN, dDm, dMt, mdAppend, mdPop, dDk, sPar, sSeq, sIf, sRet, sSet, sExpr, sNext, sNever, vSh, vOw, dK1, dIsi, dIsi2, isD, rdI0, rdI, List.getElem?_cons_zero, List.getElem?_cons_succ, Nat.reduceAdd, Nat.reduceSub, List.set_cons_zero, List.set_cons_succ, Option.some.injEq, exists_eq_left', exists_eq_left, true_implies, false_implies, and_true, true_and, reduceCtorEq, Bool.not_true, Bool.not_false, Bool.false_eq_true, implies_true]
    rcases hz with ⟨rfl, hn⟩ | ⟨p, hp, hs, rfl, top, fst⟩
    · refine h0 (unk0 fun p e => hn p (List.getElem?_eq_some_iff.mp e).1 e)
    · exact h p hs (fun p' e => top p' (List.getElem?_eq_some_iff.mp e).1 e) fst
end
end K33

namespace K33
open PySem PySem.Spec PyProof.Rows L2 Dc
variable [TabsT]
section
variable {P : Program} {KV : KW} (G : Gc P KV)
theorem nput_new {α : Type} [DecidableEq α] {ns : List α} {n : α} (h : n ∉ ns) : nput ns n = ns ++ [n] := by unfold nput; rw [if_neg h]
theorem ints_map {l : List Nat} : (l.map fun n : Nat => PyData.int (n : Int)) = (l.map fun n : Nat => (n : Int)).map PyData.int := by rw [List.map_map]; rfl
theorem nats_shaped (l : List Nat) : SeqAt.shaped (.list (l.map fun n : Nat => PyData.int (n : Int))) = true := by
  rw [ints_map]
  exact ints_shaped _
theorem ps_begin {ps : List Nat} (so : ps.Pairwise (· < ·)) : ps.Nodup := so.imp fun h => Nat.ne_of_lt h
theorem key_snoc {ps : List Nat} (nd : ps.Nodup) {i n : Nat} (h : ps[i]? = some n) : dputK ((ps.take i).map kI) (.inl (n : Int)) = (ps.take (i + 1)).map kI := by
  rw [dputK_map, takeS h]
  unfold nput
  rw [if_neg fun z => ?_]
  have e := List.take_append_drop i ps
  obtain ⟨hi, hv⟩ := List.getElem?_eq_some_iff.mp h
  rw [← e, List.nodup_append] at nd
  refine nd.2.2 n z n ?_ rfl
  rw [List.drop_eq_getElem_cons hi, hv]
  exact List.mem_cons_self ..
theorem rd_reached_by (h1 : G.S_moves = S_moves G.C) : Rd (S_reached_by G.C) (d_reached_by G) N_reached_by.length := by
  rintro _ Q ⟨W, K, ps, ok, p, rfl, h⟩
  simp only [d_reached_by, N_reached_by, h1]
  simp only [rho0, List.map_cons, List.map_nil, List.length_cons, List.length_nil, List.cons_append, List.nil_append, List.replicate, Nat.sub_self, Nat.add_sub_cancel, dVar, dLook, dOp, dOpE, dMapB, dChain, dTst, dAnd, dOr, dNot, dAndV, dOrV, dNotV, dIf, dNil, dCons, bNil, bCons, dTup, dLst, dCB, dCall, sFor, dEnum, gTupD, gsCons, gsNil, gSet, dAct, dLc, dIlst, dItup, wipeR, dYes, dProp, dFld, dRng1, dIsC, Dc.rdAll, rdNe, rdEq, scalD, List.length_map, sFldD, dLst, dRng2, capS, lamL, rhoF, capSl, dDc, dDcN, sPutM, sPut, sdD, sdN, dDm, dMt, mdAppend, mdPop, dDk, sPar, sSeq, sIf, sRet, sSet, sExpr, sNext, sNever, vSh, vOw, dK1, dIsi, dIsi2, isD, rdI0, rdI, List.getElem?_cons_zero, List.getElem?_cons_succ, Nat.reduceAdd, Nat.reduceSub, List.set_cons_zero, List.set_cons_succ, Option.some.injEq, exists_eq_left', exists_eq_left, true_implies, false_implies, and_true, true_and, reduceCtorEq, Bool.not_true, Bool.not_false, Bool.false_eq_true, implies_true]
  have nd := ps_begin p.so
  have l6 := places_len ok nd p.lt
  refine ⟨okw1 (by simp), by rw [sizeLine_eq]; omega, fun i ks acc => ks = (ps.take i).map kI, rfl, fun i x ks acc hx e => ?_, fun ks acc e => ?_⟩
  · obtain ⟨n, hn, rfl⟩ := getMap hx
    subst e
    exact ⟨by decide, _, rfl, key_snoc nd hn⟩
  · subst e
    rw [List.take_length]
    refine lst_t ?_
    unfold sWhile
    refine ⟨fun m ρ => ∃ ns acc ls a, ρ = [.sh (wD G.C W), .sh (psD ps), .ow (.dk (ns.map kI) acc), .ow (lsD ls), a] ∧ Wl (stepW W K) (· ∈ ps) ns ls ∧ m = 2 * (W.mv.length - ns.length) + ls.length ∧ m ≤ 18, ⟨_, ps, acc, ps, _, rfl, Wl.begin nd, rfl, by have := ok.n6; omega⟩, fun m ρ ⟨ns, acc, ls, a, e, wl, em, m18⟩ => ?_⟩
    have lt : ∀ q ∈ ns, q < W.mv.length := fun q hq => star_ind (ψ := fun q => q < W.mv.length) (fun q hq => p.lt q hq) (fun p q hp ⟨k, hk, e⟩ => by rw [← e]; exact go_lt ok hp hk) (wl.re q hq)
    subst e
    simp only [rho0, List.map_cons, List.map_nil, List.length_cons, List.length_nil, List.cons_append, List.nil_append, List.replicate, Nat.sub_self, Nat.add_sub_cancel, dVar, dLook, dOp, dOpE, dMapB, dChain, dTst, dAnd, dOr, dNot, dAndV, dOrV, dNotV, dIf, dNil, dCons, bNil, bCons, dTup, dLst, dCB, dCall, sFor, dEnum, gTupD, gsCons, gsNil, gSet, dAct, dLc, dIlst, dItup, wipeR, dYes, dProp, dFld, dRng1, dIsC, Dc.rdAll, rdNe, rdEq, scalD, List.length_map, sFldD, dLst, dRng2, capS, lamL, rhoF, capSl, dDc, dDcN, sPutM, sPut, sdD, sdN, dDm, dMt, mdAppend, mdPop, dDk, sPar, sSeq, sIf, sRet, sSet, sExpr, sNext, sNever, vSh, vOw, dK1, dIsi, dIsi2, isD, rdI0, rdI, List.getElem?_cons_zero, List.getElem?_cons_succ, Nat.reduceAdd, Nat.reduceSub, List.set_cons_zero, List.set_cons_succ, Option.some.injEq, exists_eq_left', exists_eq_left, true_implies, false_implies, and_true, true_and, reduceCtorEq, Bool.not_true, Bool.not_false, Bool.false_eq_true, implies_true]
    refine ⟨by decide, ne_nil py_nat (nats_shaped ls) ?_⟩
    refine (show ((!decide (ls = [])) = true → _) ∧ ((!decide (ls = [])) = false → _) from ⟨fun hb => ?_, fun hb => ?_⟩)
    · have ne : ls ≠ [] := by simpa using hb
      have l0 : 0 < ls.length := List.length_pos_iff.mpr ne
      obtain ⟨n, hn⟩ : ∃ n, ls[ls.length - 1]? = some n := ⟨_, List.getElem?_eq_getElem (by omega)⟩
      have wp := wl.open hn
      have hnl := lt n wp.pn
      obtain ⟨r, hr⟩ : ∃ r, W.mv[n]? = some r := ⟨_, List.getElem?_eq_getElem hnl⟩
      refine ⟨⟨_, _, rfl⟩, W, rfl, ⟨_, rfl⟩, _, rfl, natD n, by rw [List.length_map, List.getElem?_map, hn]; rfl, ix_tup hr ?_⟩
      refine ⟨fun j ρ => ∃ ns acc ls' a, ρ = [.sh (wD G.C W), .sh (psD ps), .ow (.dk (ns.map kI) acc), .ow (lsD ls'), a] ∧ Wp (stepW W K) (· ∈ ps) n (r.take j) ns ls' ∧ 2 * (W.mv.length - ns.length) + ls'.length + 1 ≤ m, ⟨ns, acc, ls.dropLast, _, by rw [← List.map_dropLast], wp, by rw [List.length_dropLast]; omega⟩, fun j x ρ hx ⟨ns, acc, ls', a, e, wp, em⟩ => ?_, fun ρ ⟨ns, acc, ls', a, e, wp, em⟩ => ?_⟩
      · obtain ⟨q, hq, rfl⟩ := getMap hx
        subst e
        simp only [rho0, List.map_cons, List.map_nil, List.length_cons, List.length_nil, List.cons_append, List.nil_append, List.replicate, Nat.sub_self, Nat.add_sub_cancel, dVar, dLook, dOp, dOpE, dMapB, dChain, dTst, dAnd, dOr, dNot, dAndV, dOrV, dNotV, dIf, dNil, dCons, bNil, bCons, dTup, dLst, dCB, dCall, sFor, dEnum, gTupD, gsCons, gsNil, gSet, dAct, dLc, dIlst, dItup, wipeR, dYes, dProp, dFld, dRng1, dIsC, Dc.rdAll, rdNe, rdEq, scalD, List.length_map, sFldD, dLst, dRng2, capS, lamL, rhoF, capSl, dDc, dDcN, sPutM, sPut, sdD, sdN, dDm, dMt, mdAppend, mdPop, dDk, sPar, sSeq, sIf, sRet, sSet, sExpr, sNext, sNever, vSh, vOw, dK1, dIsi, dIsi2, isD, rdI0, rdI, List.getElem?_cons_zero, List.getElem?_cons_succ, Nat.reduceAdd, Nat.reduceSub, List.set_cons_zero, List.set_cons_succ, Option.some.injEq, exists_eq_left', exists_eq_left, true_implies, false_implies, and_true, true_and, reduceCtorEq, Bool.not_true, Bool.not_false, Bool.false_eq_true, implies_true]
        refine ⟨by decide, _, rfl, ?_⟩
        rw [hasK_map]
        have hst : stepW W K n q := (row_mem ok hr).mp (mem_of hq)
        refine (show ((!decide (q ∈ ns)) = true → _) ∧ ((!decide (q ∈ ns)) = false → _) from ⟨fun hb => ?_, fun hb => ?_⟩)
        · have hq2 : q ∉ ns := by simpa using hb
          have wp2 := wp.new hq2 hst
          have lt2 : ∀ y ∈ ns ++ [q], y < W.mv.length := fun y hy => star_ind (ψ := fun q => q < W.mv.length) (fun q hq => p.lt q hq) (fun p q hp ⟨k, hk, e⟩ => by rw [← e]; exact go_lt ok hp hk) (wp2.re y hy)
          have l2 := nd_len wp2.nd lt2
          have n6 := ok.n6
          rw [List.length_append, List.length_singleton] at l2
          refine ⟨⟨_, rfl⟩, _, rfl, _, rfl, by rw [sizeLine_eq, List.length_map]; omega, ⟨_, rfl⟩, _, rfl, by rw [sizeLine_eq, List.length_map]; omega, ns ++ [q], dputX (ns.map kI) acc (.inl (q : Int)) .non, ls' ++ [q], .sh (natD q), ?_, by rw [takeS hq]; exact wp2, by rw [List.length_append, List.length_append, List.length_singleton]; omega⟩
          rw [dputK_map, nput_new hq2]
          simp only [lsD, List.map_append, List.map_cons, List.map_nil]
        · have hq2 : q ∈ ns := by simpa using hb
          exact ⟨ns, acc, ls', _, rfl, by rw [takeS hq]; exact wp.old hq2, em⟩
      · subst e
        rw [List.length_map, List.take_length] at wp
        exact ⟨_, by omega, ns, acc, ls', _, rfl, wp.close fun q hq => (row_mem ok hr).mpr hq, rfl, by omega⟩
    · have e0 : ls = [] := by simpa using hb
      subst e0
      exact srt_end wl.nd (by have := places_len ok wl.nd lt; rw [sizeLine_eq]; omega) wl.fin h
/-! pairs -/
theorem srt_pairs {ns : List (Nat × Nat)} {acc : List D} {φ : Nat × Nat → Prop} {Q : D → Prop} (nd : ns.Nodup) (hl : ns.length ≤ sizeLine) (me : ∀ q, q ∈ ns ↔ φ q) (h : ∀ qs, PairsIs qs φ → Q (prsD qs)) : rdSrtD [.dn (ns.map prD) acc] fun z => Dc.rdTup [z] Q := by
  obtain ⟨ok, qs, e, pm⟩ := sort_prs hl
  show SortOk (ns.map prD) ∧ Q (.tup ((ns.map prD).mergeSort leD))
  rw [e]
  exact ⟨ok, h qs ⟨pm.nodup_iff.mpr nd, fun q => (pm.mem_iff).trans (me q)⟩⟩
theorem lt_prs {V W : Wt} {l : List (Nat × Nat)} (nd : l.Nodup) (lt : ∀ p ∈ l, p.1 < V.mv.length ∧ p.2 < W.mv.length) : Prs V W l := ⟨nd, lt⟩
theorem rd_pairs_known (h1 : G.S_pair_behind = S_pair_behind G.C) : Rd (S_pairs_known G.C) (d_pairs_known G) N_pairs_known.length := by
  rintro _ Q ⟨V, W, K, ps, k, okv, ok, pp, hk, rfl, h⟩
  simp only [d_pairs_known, N_pairs_known, h1]
  simp only [rho0, List.map_cons, List.map_nil, List.length_cons, List.length_nil, List.cons_append, List.nil_append, List.replicate, Nat.sub_self, Nat.add_sub_cancel, dVar, dLook, dOp, dOpE, dMapB, dChain, dTst, dAnd, dOr, dNot, dAndV, dOrV, dNotV, dIf, dNil, dCons, bNil, bCons, dTup, dLst, dCB, dCall, sFor, dEnum, gTupD, gsCons, gsNil, gSet, dAct, dLc, dIlst, dItup, wipeR, dYes, dProp, dFld, dRng1, dIsC, Dc.rdAll, rdNe, rdEq, scalD, List.length_map, sFldD, dLst, dRng2, capS, lamL, rhoF, capSl, dDc, dDcN, sPutM, sPut, sdD, sdN, dDm, dMt, mdAppend, mdPop, dDk, sPar, sSeq, sIf, sRet, sSet, sExpr, sNext, sNever, vSh, vOw, dK1, dIsi, dIsi2, isD, rdI0, rdI, List.getElem?_cons_zero, List.getElem?_cons_succ, Nat.reduceAdd, Nat.reduceSub, List.set_cons_zero, List.set_cons_succ, Option.some.injEq, exists_eq_left', exists_eq_left, true_implies, false_implies, and_true, true_and, reduceCtorEq, Bool.not_true, Bool.not_false, Bool.false_eq_true, implies_true]
  have l36 := prs_len okv ok pp
  have lt : ∀ q ∈ ps, (go V q.1 k < V.mv.length ∧ go W q.2 k < W.mv.length) := fun q hq => ⟨go_lt okv (pp.lt q hq).1 hk, go_lt ok (pp.lt q hq).2 hk⟩
  refine ⟨okw1 (by simp), by rw [sizeLine_eq]; omega, fun i ks acc => ∃ ns, ks = ns.map prD ∧ ns.Nodup ∧ ∀ q, q ∈ ns ↔ ∃ p ∈ ps.take i, (go V p.1 k, go W p.2 k) = q, ⟨[], rfl, by simp, by simp⟩, fun i x ks acc hx ⟨ns, e, nd, me⟩ => ?_, fun ks acc ⟨ns, e, nd, me⟩ => ?_⟩
  · obtain ⟨n, hn, rfl⟩ := getMap hx
    subst e
    have hn2 := pp.lt n (mem_of hn)
    refine ⟨by decide, V, W, K, n, k, okv, ok, hn2.1, hn2.2, hk, rfl, isTup_pr (go V n.1 k, go W n.2 k), kP (go V n.1 k, go W n.2 k), toNK_pr _, depth_pr _, nput ns (go V n.1 k, go W n.2 k), dputN_map, nput_nd nd, fun q => ?_⟩
    rw [nput_mem, me q, takeS hn]
    constructor
    · rintro (⟨p, hp, e⟩ | rfl)
      · exact ⟨p, by simp [hp], e⟩
      · exact ⟨n, by simp, rfl⟩
    · rintro ⟨p, hp, e⟩
      rcases List.mem_append.mp hp with z | z
      · exact .inl ⟨p, z, e⟩
      · simp at z; subst z; exact .inr e.symm
  · subst e
    rw [List.take_length] at me
    have lt2 : ∀ q ∈ ns, q.1 < V.mv.length ∧ q.2 < W.mv.length := fun q hq => by
      obtain ⟨p, hp, e⟩ := (me q).mp hq
      rw [← e]
      exact lt p hp
    refine srt_pairs nd (by have := prs_len okv ok (lt_prs nd lt2); rw [sizeLine_eq]; omega) me h
theorem rd_pairs_next (h1 : G.S_pair_behind = S_pair_behind G.C) (h2 : G.S_kinds = S_kinds G.C) : Rd (S_pairs_next G.C) (d_pairs_next G) N_pairs_next.length := by
  rintro _ Q ⟨V, W, K, ps, okv, ok, pp, ne, rfl, h⟩
  simp only [d_pairs_next, N_pairs_next, h1, h2]
  simp only [rho0, List.map_cons, List.map_nil, List.length_cons, List.length_nil, List.cons_append, List.nil_append, List.replicate, Nat.sub_self, Nat.add_sub_cancel, dVar, dLook, dOp, dOpE, dMapB, dChain, dTst, dAnd, dOr, dNot, dAndV, dOrV, dNotV, dIf, dNil, dCons, bNil, bCons, dTup, dLst, dCB, dCall, sFor, dEnum, gTupD, gsCons, gsNil, gSet, dAct, dLc, dIlst, dItup, wipeR, dYes, dProp, dFld, dRng1, dIsC, Dc.rdAll, rdNe, rdEq, scalD, List.length_map, sFldD, dLst, dRng2, capS, lamL, rhoF, capSl, dDc, dDcN, sPutM, sPut, sdD, sdN, dDm, dMt, mdAppend, mdPop, dDk, sPar, sSeq, sIf, sRet, sSet, sExpr, sNext, sNever, vSh, vOw, dK1, dIsi, dIsi2, isD, rdI0, rdI, List.getElem?_cons_zero, List.getElem?_cons_succ, Nat.reduceAdd, Nat.reduceSub, List.set_cons_zero, List.set_cons_succ, Option.some.injEq, exists_eq_left', exists_eq_left, true_implies, false_implies, and_true, true_and, reduceCtorEq, Bool.not_true, Bool.not_false, Bool.false_eq_true, implies_true]
  have k4 := ok.k4
  have lt : ∀ {ns : List (Nat × Nat)} {i : Nat}, (∀ q, q ∈ ns ↔ ∃ p ∈ ps.take i, stepP V W K p q) → ∀ q ∈ ns, q.1 < V.mv.length ∧ q.2 < W.mv.length := fun {ns i} me q hq => by
    obtain ⟨p, hp, k, hk, e⟩ := (me q).mp hq
    have hn2 := pp.lt p (List.mem_of_mem_take hp)
    rw [← e]
    exact ⟨go_lt okv hn2.1 hk, go_lt ok hn2.2 hk⟩
  refine ⟨fun i ρ => ∃ ns acc a, ρ = [.sh (wD G.C V), .sh (wD G.C W), .sh (prsD ps), .ow (.dn (ns.map prD) acc), a, .no] ∧ ns.length = acc.length ∧ ns.Nodup ∧ ∀ q, q ∈ ns ↔ ∃ p ∈ ps.take i, stepP V W K p q, ⟨[], [], _, rfl, rfl, by simp, by simp⟩, fun i x ρ hx ⟨ns, acc, a, e, hl, nd, me⟩ => ?_, fun ρ ⟨ns, acc, a, e, hl, nd, me⟩ => ?_⟩
  · obtain ⟨n, hn, rfl⟩ := getMap hx
    subst e
    have hn2 := pp.lt n (mem_of hn)
    simp only [rho0, List.map_cons, List.map_nil, List.length_cons, List.length_nil, List.cons_append, List.nil_append, List.replicate, Nat.sub_self, Nat.add_sub_cancel, dVar, dLook, dOp, dOpE, dMapB, dChain, dTst, dAnd, dOr, dNot, dAndV, dOrV, dNotV, dIf, dNil, dCons, bNil, bCons, dTup, dLst, dCB, dCall, sFor, dEnum, gTupD, gsCons, gsNil, gSet, dAct, dLc, dIlst, dItup, wipeR, dYes, dProp, dFld, dRng1, dIsC, Dc.rdAll, rdNe, rdEq, scalD, List.length_map, sFldD, dLst, dRng2, capS, lamL, rhoF, capSl, dDc, dDcN, sPutM, sPut, sdD, sdN, dDm, dMt, mdAppend, mdPop, dDk, sPar, sSeq, sIf, sRet, sSet, sExpr, sNext, sNever, vSh, vOw, dK1, dIsi, dIsi2, isD, rdI0, rdI, List.getElem?_cons_zero, List.getElem?_cons_succ, Nat.reduceAdd, Nat.reduceSub, List.set_cons_zero, List.set_cons_succ, Option.some.injEq, exists_eq_left', exists_eq_left, true_implies, false_implies, and_true, true_and, reduceCtorEq, Bool.not_true, Bool.not_false, Bool.false_eq_true, implies_true]
    refine ⟨by decide, ⟨_, _, rfl⟩, V, K, okv, rfl, by omega, by omega, okw1 (by simp), by rw [rng_len, sizeLine_eq]; omega, fun j ks acc => ∃ ms, ks = ms.map prD ∧ ms.length = acc.length ∧ ms.Nodup ∧ ∀ q, q ∈ ms ↔ ∃ k, k < j ∧ (go V n.1 k, go W n.2 k) = q, ⟨[], rfl, rfl, by simp, by simp⟩, fun j x ks acc hx ⟨ms, e, el, nd, me⟩ => ?_, fun ks zs ⟨ms, e, el, nd2, me2⟩ => ?_⟩
    · obtain ⟨hj, rfl⟩ := rng_at hx
      subst e
      refine ⟨by decide, V, W, K, n, j, okv, ok, hn2.1, hn2.2, hj, rfl, isTup_pr (go V n.1 j, go W n.2 j), kP (go V n.1 j, go W n.2 j), toNK_pr _, depth_pr _, nput ms (go V n.1 j, go W n.2 j), dputN_map, dputM_len el, nput_nd nd, fun q => ?_⟩
      rw [nput_mem, me q]
      constructor
      · rintro (⟨k, hk, e⟩ | rfl)
        · exact ⟨k, by omega, e⟩
        · exact ⟨j, by omega, rfl⟩
      · rintro ⟨k, hk, e⟩
        by_cases z : k = j
        · subst z; exact .inr e.symm
        · exact .inl ⟨k, by omega, e⟩
    · subst e
      rw [rng_len] at me2
      have me3 : ∀ q, q ∈ ms ↔ stepP V W K n q := me2
      have lt2 : ∀ q ∈ ms, q.1 < V.mv.length ∧ q.2 < W.mv.length := fun q hq => by
        obtain ⟨k, hk, e⟩ := (me2 q).mp hq
        rw [← e]
        exact ⟨go_lt okv hn2.1 hk, go_lt ok hn2.2 hk⟩
      have l1 := prs_len okv ok (lt_prs nd (lt me))
      have l2 := prs_len okv ok (lt_prs nd2 lt2)
      have n6 := ok.n6
      have v6 := okv.n6
      obtain ⟨m1, m2⟩ := mergeN_map (ms := ms) (zs := zs) (ns := ns) (xs := acc) el hl
      refine ⟨_, rfl, ⟨by rw [List.length_map]; exact hl, by rw [List.length_map]; exact el, by rw [sizeLine_eq, List.length_map, List.length_map]; omega, .inr fun w => hash_nd w nd2 fun p hp => ?_, nputs ns ms, _, _, by rw [m1], m2, nputs_nd nd, fun q => ?_⟩⟩
      · have := lt2 p hp; omega
      · rw [nputs_mem, me q, me3 q, takeS hn]
        constructor
        · rintro (⟨p', hp', e⟩ | e)
          · exact ⟨p', List.mem_append_left _ hp', e⟩
          · exact ⟨n, by simp, e⟩
        · rintro ⟨p', hp', e⟩
          rcases List.mem_append.mp hp' with z | z
          · exact .inl ⟨p', z, e⟩
          · simp at z; subst z; exact .inr e
  · subst e
    have l1 := prs_len okv ok (lt_prs nd (lt me))
    rw [List.take_length] at me
    exact srt_pairs nd (by rw [sizeLine_eq]; omega) me h
theorem prs_shaped (l : List (Nat × Nat)) : SeqAt.shaped (.list (l.map fun p => PyData.tuple [.int (p.1 : Int), .int (p.2 : Int)])) = true := by
  have h1 : ∀ l : List (Nat × Nat), PyData.canLayAll0 (l.map fun p => PyData.tuple [.int (p.1 : Int), .int (p.2 : Int)]) = true := fun l => by
    induction l with
    | nil => rfl
    | cons a l ih =>
      rw [List.map_cons]
      unfold PyData.canLayAll0
      rw [ih]
      rfl
  have h2 : ∀ l : List (Nat × Nat), PyData.depthAll (l.map fun p => PyData.tuple [.int (p.1 : Int), .int (p.2 : Int)]) ≤ 2 := fun l => by
    induction l with
    | nil => exact Nat.zero_le _
    | cons a l ih =>
      rw [List.map_cons]
      unfold PyData.depthAll
      have : PyData.depth (.tuple [.int (a.1 : Int), .int (a.2 : Int)]) = PyData.depth (.tuple [.int 0, .int 0]) := rfl
      rw [this]
      have : PyData.depth (.tuple [.int 0, .int 0]) ≤ 2 := by decide
      omega
  unfold SeqAt.shaped
  rw [show PyData.canLay0 (.list (l.map fun p => PyData.tuple [.int (p.1 : Int), .int (p.2 : Int)])) = true from h1 l]
  have : PyData.depth (.list (l.map fun p => PyData.tuple [.int (p.1 : Int), .int (p.2 : Int)])) ≤ 64 := by
    unfold PyData.depth
    have := h2 l
    omega
  simp [this]
theorem pr_snoc {ps : List (Nat × Nat)} (nd : ps.Nodup) {i : Nat} {n : Nat × Nat} (h : ps[i]? = some n) : dputN ((ps.take i).map prD) (kP n) (prD n) = (ps.take (i + 1)).map prD := by
  rw [dputN_map, takeS h]
  unfold nput
  rw [if_neg fun z => ?_]
  have e := List.take_append_drop i ps
  obtain ⟨hi, hv⟩ := List.getElem?_eq_some_iff.mp h
  rw [← e, List.nodup_append] at nd
  refine nd.2.2 n z n ?_ rfl
  rw [List.drop_eq_getElem_cons hi, hv]
  exact List.mem_cons_self ..
theorem rd_pairs_reached (h1 : G.S_pairs_next = S_pairs_next G.C) : Rd (S_pairs_reached G.C) (d_pairs_reached G) N_pairs_reached.length := by
  rintro _ Q ⟨V, W, K, ps, okv, ok, pp, ne, rfl, h⟩
  simp only [d_pairs_reached, N_pairs_reached, h1]
  simp only [rho0, List.map_cons, List.map_nil, List.length_cons, List.length_nil, List.cons_append, List.nil_append, List.replicate, Nat.sub_self, Nat.add_sub_cancel, dVar, dLook, dOp, dOpE, dMapB, dChain, dTst, dAnd, dOr, dNot, dAndV, dOrV, dNotV, dIf, dNil, dCons, bNil, bCons, dTup, dLst, dCB, dCall, sFor, dEnum, gTupD, gsCons, gsNil, gSet, dAct, dLc, dIlst, dItup, wipeR, dYes, dProp, dFld, dRng1, dIsC, Dc.rdAll, rdNe, rdEq, scalD, List.length_map, sFldD, dLst, dRng2, capS, lamL, rhoF, capSl, dDc, dDcN, sPutM, sPut, sdD, sdN, dDm, dMt, mdAppend, mdPop, dDk, sPar, sSeq, sIf, sRet, sSet, sExpr, sNext, sNever, vSh, vOw, dK1, dIsi, dIsi2, isD, rdI0, rdI, List.getElem?_cons_zero, List.getElem?_cons_succ, Nat.reduceAdd, Nat.reduceSub, List.set_cons_zero, List.set_cons_succ, Option.some.injEq, exists_eq_left', exists_eq_left, true_implies, false_implies, and_true, true_and, reduceCtorEq, Bool.not_true, Bool.not_false, Bool.false_eq_true, implies_true]
  have nd := pp.nd
  have l36 := prs_len okv ok pp
  refine ⟨okw1 (by simp), by rw [sizeLine_eq]; omega, fun i ks acc => ks = (ps.take i).map prD, rfl, fun i x ks acc hx e => ?_, fun ks acc e => ?_⟩
  · obtain ⟨n, hn, rfl⟩ := getMap hx
    subst e
    exact ⟨by decide, isTup_pr n, kP n, toNK_pr n, depth_pr n, pr_snoc nd hn⟩
  · subst e
    rw [List.take_length]
    refine lst_t ?_
    unfold sWhile
    refine ⟨fun m ρ => ∃ ns acc ls a, ρ = [.sh (wD G.C V), .sh (wD G.C W), .sh (prsD ps), .ow (.dn (ns.map prD) acc), .ow (.lst (ls.map prD)), a] ∧ Wl (stepP V W K) (· ∈ ps) ns ls ∧ m = 2 * (36 - ns.length) + ls.length ∧ m ≤ 108, ⟨_, ps, acc, ps, _, rfl, Wl.begin nd, rfl, by omega⟩, fun m ρ ⟨ns, acc, ls, a, e, wl, em, m18⟩ => ?_⟩
    have ltS : ∀ q, Star (stepP V W K) (· ∈ ps) q → q.1 < V.mv.length ∧ q.2 < W.mv.length := fun q hq => star_ind (ψ := fun q => q.1 < V.mv.length ∧ q.2 < W.mv.length) (fun q hq => pp.lt q hq) (fun p q hp ⟨k, hk, e⟩ => by rw [← e]; exact ⟨go_lt okv hp.1 hk, go_lt ok hp.2 hk⟩) hq
    have lt : ∀ q ∈ ns, q.1 < V.mv.length ∧ q.2 < W.mv.length := fun q hq => ltS q (wl.re q hq)
    subst e
    simp only [rho0, List.map_cons, List.map_nil, List.length_cons, List.length_nil, List.cons_append, List.nil_append, List.replicate, Nat.sub_self, Nat.add_sub_cancel, dVar, dLook, dOp, dOpE, dMapB, dChain, dTst, dAnd, dOr, dNot, dAndV, dOrV, dNotV, dIf, dNil, dCons, bNil, bCons, dTup, dLst, dCB, dCall, sFor, dEnum, gTupD, gsCons, gsNil, gSet, dAct, dLc, dIlst, dItup, wipeR, dYes, dProp, dFld, dRng1, dIsC, Dc.rdAll, rdNe, rdEq, scalD, List.length_map, sFldD, dLst, dRng2, capS, lamL, rhoF, capSl, dDc, dDcN, sPutM, sPut, sdD, sdN, dDm, dMt, mdAppend, mdPop, dDk, sPar, sSeq, sIf, sRet, sSet, sExpr, sNext, sNever, vSh, vOw, dK1, dIsi, dIsi2, isD, rdI0, rdI, List.getElem?_cons_zero, List.getElem?_cons_succ, Nat.reduceAdd, Nat.reduceSub, List.set_cons_zero, List.set_cons_succ, Option.some.injEq, exists_eq_left', exists_eq_left, true_implies, false_implies, and_true, true_and, reduceCtorEq, Bool.not_true, Bool.not_false, Bool.false_eq_true, implies_true]
    refine ⟨by decide, ne_nil py_pr (prs_shaped ls) ?_⟩
    refine (show ((!decide (ls = [])) = true → _) ∧ ((!decide (ls = [])) = false → _) from ⟨fun hb => ?_, fun hb => ?_⟩)
    · have ne : ls ≠ [] := by simpa using hb
      have l0 : 0 < ls.length := List.length_pos_iff.mpr ne
      obtain ⟨n, hn⟩ : ∃ n, ls[ls.length - 1]? = some n := ⟨_, List.getElem?_eq_getElem (by omega)⟩
      have wp := wl.open hn
      have hnl := lt n wp.pn
      refine ⟨⟨_, rfl⟩, _, rfl, prD n, by rw [List.length_map, List.getElem?_map, hn]; rfl, by decide, V, W, K, [n], okv, ok, ⟨by simp, fun p hp => by simp at hp; rw [hp]; exact hnl⟩, by simp, rfl, fun qs hqs => ?_⟩
      have mq : ∀ q, q ∈ qs ↔ stepP V W K n q := fun q => by
        rw [hqs.me q]
        exact ⟨fun ⟨p, hp, hst⟩ => by simp at hp; rw [← hp]; exact hst, fun hst => ⟨n, by simp, hst⟩⟩
      refine ⟨fun j ρ => ∃ ns acc ls' a, ρ = [.sh (wD G.C V), .sh (wD G.C W), .sh (prsD ps), .ow (.dn (ns.map prD) acc), .ow (.lst (ls'.map prD)), a] ∧ Wp (stepP V W K) (· ∈ ps) n (qs.take j) ns ls' ∧ 2 * (36 - ns.length) + ls'.length + 1 ≤ m, ⟨ns, acc, ls.dropLast, _, by rw [← List.map_dropLast], wp, by rw [List.length_dropLast]; omega⟩, fun j x ρ hx ⟨ns, acc, ls', a, e, wp, em⟩ => ?_, fun ρ ⟨ns, acc, ls', a, e, wp, em⟩ => ?_⟩
      · obtain ⟨q, hq, rfl⟩ := getMap hx
        subst e
        simp only [rho0, List.map_cons, List.map_nil, List.length_cons, List.length_nil, List.cons_append, List.nil_append, List.replicate, Nat.sub_self, Nat.add_sub_cancel, dVar, dLook, dOp, dOpE, dMapB, dChain, dTst, dAnd, dOr, dNot, dAndV, dOrV, dNotV, dIf, dNil, dCons, bNil, bCons, dTup, dLst, dCB, dCall, sFor, dEnum, gTupD, gsCons, gsNil, gSet, dAct, dLc, dIlst, dItup, wipeR, dYes, dProp, dFld, dRng1, dIsC, Dc.rdAll, rdNe, rdEq, scalD, List.length_map, sFldD, dLst, dRng2, capS, lamL, rhoF, capSl, dDc, dDcN, sPutM, sPut, sdD, sdN, dDm, dMt, mdAppend, mdPop, dDk, sPar, sSeq, sIf, sRet, sSet, sExpr, sNext, sNever, vSh, vOw, dK1, dIsi, dIsi2, isD, rdI0, rdI, List.getElem?_cons_zero, List.getElem?_cons_succ, Nat.reduceAdd, Nat.reduceSub, List.set_cons_zero, List.set_cons_succ, Option.some.injEq, exists_eq_left', exists_eq_left, true_implies, false_implies, and_true, true_and, reduceCtorEq, Bool.not_true, Bool.not_false, Bool.false_eq_true, implies_true]
        refine ⟨by decide, isTup_pr q, kP q, toNK_pr q, depth_pr q, ?_⟩
        rw [hasN_map]
        have hst : stepP V W K n q := (mq q).mp (mem_of hq)
        refine (show ((!decide (q ∈ ns)) = true → _) ∧ ((!decide (q ∈ ns)) = false → _) from ⟨fun hb => ?_, fun hb => ?_⟩)
        · have hq2 : q ∉ ns := by simpa using hb
          have wp2 := wp.new hq2 hst
          have l2 := prs_len okv ok (lt_prs wp2.nd fun y hy => ltS y (wp2.re y hy))
          rw [List.length_append, List.length_singleton] at l2
          refine ⟨⟨_, rfl⟩, _, rfl, isTup_pr q, kP q, toNK_pr q, depth_pr q, by rw [sizeLine_eq, List.length_map]; omega, ⟨_, rfl⟩, _, rfl, by rw [sizeLine_eq, List.length_map]; omega, ns ++ [q], dputM (ns.map prD) acc (kP q) .non, ls' ++ [q], .sh (prD q), ?_, by rw [takeS hq]; exact wp2, by rw [List.length_append, List.length_append, List.length_singleton]; omega⟩
          rw [dputN_map, nput_new hq2]
          simp only [List.map_append, List.map_cons, List.map_nil]
        · have hq2 : q ∈ ns := by simpa using hb
          exact ⟨ns, acc, ls', _, rfl, by rw [takeS hq]; exact wp.old hq2, em⟩
      · subst e
        rw [List.length_map, List.take_length] at wp
        exact ⟨_, by omega, ns, acc, ls', _, rfl, wp.close fun q hq => (mq q).mpr hq, rfl, by omega⟩
    · have e0 : ls = [] := by simpa using hb
      subst e0
      exact srt_pairs wl.nd (by have := prs_len okv ok (lt_prs wl.nd lt); rw [sizeLine_eq]; omega) wl.fin h
end
end K33

namespace K33
open PySem PySem.Spec PyProof.Rows L2 Dc
variable [TabsT]
section
variable {P : Program} {KV : KW} (G : Gc P KV)
theorem rd__law_place : Rd S__law_place (d__law_place G) N__law_place.length := by
  rintro _ Q ⟨W, K, row, ok, hr, rfl, h⟩
  simp only [d__law_place, N__law_place]
  simp only [rho0, List.map_cons, List.map_nil, List.length_cons, List.length_nil, List.cons_append, List.nil_append, List.replicate, Nat.sub_self, Nat.add_sub_cancel, dVar, dLook, dOp, dOpE, dMapB, dChain, dTst, dAnd, dOr, dNot, dAndV, dOrV, dNotV, dIf, dNil, dCons, bNil, bCons, dTup, dLst, dCB, dCall, sFor, dEnum, gTupD, gsCons, gsNil, gSet, dAct, dLc, dIlst, dItup, wipeR, dYes, dProp, dFld, dRng1, dIsC, Dc.rdAll, rdNe, rdEq, scalD, List.length_map, sFldD, dLst, dRng2, capS, lamL, rhoF, capSl, dDc, dDcN, sPutM, sPut, sdD, sdN, dDm, dMt, mdAppend, mdPop, dDk, sPar, sSeq, sIf, sRet, sSet, sExpr, sNext, sNever, vSh, vOw, dK1, dIsi, dIsi2, isD, rdI0, rdI, List.getElem?_cons_zero, List.getElem?_cons_succ, Nat.reduceAdd, Nat.reduceSub, List.set_cons_zero, List.set_cons_succ, Option.some.injEq, exists_eq_left', exists_eq_left, true_implies, false_implies, and_true, true_and, reduceCtorEq, Bool.not_true, Bool.not_false, Bool.false_eq_true, implies_true]
  refine ⟨fun i ρ => ∃ z, ρ = [.sh (twD W), .sh (psD row), .sh (natD (walkW W (row.take i))), z] ∧ walkW W (row.take i) < W.mv.length, ⟨_, rfl, ok.n1⟩, fun i x ρ hx ⟨z, e, hl⟩ => ?_, fun ρ ⟨z, e, hl⟩ => ?_⟩
  · obtain ⟨k, hk, rfl⟩ := getMap hx
    subst e
    simp only [rho0, List.map_cons, List.map_nil, List.length_cons, List.length_nil, List.cons_append, List.nil_append, List.replicate, Nat.sub_self, Nat.add_sub_cancel, dVar, dLook, dOp, dOpE, dMapB, dChain, dTst, dAnd, dOr, dNot, dAndV, dOrV, dNotV, dIf, dNil, dCons, bNil, bCons, dTup, dLst, dCB, dCall, sFor, dEnum, gTupD, gsCons, gsNil, gSet, dAct, dLc, dIlst, dItup, wipeR, dYes, dProp, dFld, dRng1, dIsC, Dc.rdAll, rdNe, rdEq, scalD, List.length_map, sFldD, dLst, dRng2, capS, lamL, rhoF, capSl, dDc, dDcN, sPutM, sPut, sdD, sdN, dDm, dMt, mdAppend, mdPop, dDk, sPar, sSeq, sIf, sRet, sSet, sExpr, sNext, sNever, vSh, vOw, dK1, dIsi, dIsi2, isD, rdI0, rdI, List.getElem?_cons_zero, List.getElem?_cons_succ, Nat.reduceAdd, Nat.reduceSub, List.set_cons_zero, List.set_cons_succ, Option.some.injEq, exists_eq_left', exists_eq_left, true_implies, false_implies, and_true, true_and, reduceCtorEq, Bool.not_true, Bool.not_false, Bool.false_eq_true, implies_true]
    have hkK := hr k (mem_of hk)
    have e : walkW W (row.take (i + 1)) = go W (walkW W (row.take i)) k := by rw [takeS hk]; unfold walkW; rw [List.foldl_append]; rfl
    refine ⟨by decide, mvD W, rfl, ix_go ok hl hkK ⟨.sh (natD k), ?_, ?_⟩⟩
    · rw [e]
    · rw [e]; exact go_lt ok hl hkK
  · subst e
    rw [List.take_of_length_le (by simp)]
    exact h
theorem rd__law_made (h1 : G.S_init = S_init G.C) : Rd (S__law_made G.C) (d__law_made G) N__law_made.length := by
  rintro _ Q ⟨W, K, ok, rfl, h⟩
  simp only [d__law_made, N__law_made, h1]
  unfold dMake
  simp only [rho0, List.map_cons, List.map_nil, List.length_cons, List.length_nil, List.cons_append, List.nil_append, List.replicate, Nat.sub_self, Nat.add_sub_cancel, dVar, dLook, dOp, dOpE, dMapB, dChain, dTst, dAnd, dOr, dNot, dAndV, dOrV, dNotV, dIf, dNil, dCons, bNil, bCons, dTup, dLst, dCB, dCall, sFor, dEnum, gTupD, gsCons, gsNil, gSet, dAct, dLc, dIlst, dItup, wipeR, dYes, dProp, dFld, dRng1, dIsC, Dc.rdAll, rdNe, rdEq, scalD, List.length_map, sFldD, dLst, dRng2, capS, lamL, rhoF, capSl, dDc, dDcN, sPutM, sPut, sdD, sdN, dDm, dMt, mdAppend, mdPop, dDk, sPar, sSeq, sIf, sRet, sSet, sExpr, sNext, sNever, vSh, vOw, dK1, dIsi, dIsi2, isD, rdI0, rdI, List.getElem?_cons_zero, List.getElem?_cons_succ, Nat.reduceAdd, Nat.reduceSub, List.set_cons_zero, List.set_cons_succ, Option.some.injEq, exists_eq_left', exists_eq_left, true_implies, false_implies, and_true, true_and, reduceCtorEq, Bool.not_true, Bool.not_false, Bool.false_eq_true, implies_true]
  have n6 := ok.n6
  refine ⟨mvD W, rfl, ?_, ?_, ?_⟩
  · intro j hj d
    simp only [List.mem_cons, List.not_mem_nil, or_false] at hj
    subst hj
    simp
  · rw [sizeLine_eq, List.length_map]; omega
  · refine ⟨fun i acc => acc = (W.mv.take i).map lsD, by simp, fun i x acc hx e => ?_, fun acc e => ?_⟩
    · obtain ⟨r, hr, rfl⟩ := getMap hx
      refine ⟨by decide, ?_⟩
      show acc ++ [lsD r] = _
      rw [takeS hr, show acc = _ from e]
      simp
    · subst e
      refine ⟨psD W.wd, rfl, ?_⟩
      refine lst_t ⟨W, K, ok, rfl, ?_, rfl, h⟩
      rw [List.length_map, List.take_length]
theorem rd__law_pick (h1 : G.S__law_draw = S__law_draw (tapeD P KV)) : Rd (S__law_pick (tapeD P KV)) (d__law_pick G) N__law_pick.length := by
  rintro _ Q ⟨xs, rfl, h0, hl, h⟩
  simp only [d__law_pick, N__law_pick, h1]
  simp only [rho0, List.map_cons, List.map_nil, List.length_cons, List.length_nil, List.cons_append, List.nil_append, List.replicate, Nat.sub_self, Nat.add_sub_cancel, dVar, dLook, dOp, dOpE, dMapB, dChain, dTst, dAnd, dOr, dNot, dAndV, dOrV, dNotV, dIf, dNil, dCons, bNil, bCons, dTup, dLst, dCB, dCall, sFor, dEnum, gTupD, gsCons, gsNil, gSet, dAct, dLc, dIlst, dItup, wipeR, dYes, dProp, dFld, dRng1, dIsC, Dc.rdAll, rdNe, rdEq, scalD, List.length_map, sFldD, dLst, dRng2, capS, lamL, rhoF, capSl, dDc, dDcN, sPutM, sPut, sdD, sdN, dDm, dMt, mdAppend, mdPop, dDk, sPar, sSeq, sIf, sRet, sSet, sExpr, sNext, sNever, vSh, vOw, dK1, dIsi, dIsi2, isD, rdI0, rdI, List.getElem?_cons_zero, List.getElem?_cons_succ, Nat.reduceAdd, Nat.reduceSub, List.set_cons_zero, List.set_cons_succ, Option.some.injEq, exists_eq_left', exists_eq_left, true_implies, false_implies, and_true, true_and, reduceCtorEq, Bool.not_true, Bool.not_false, Bool.false_eq_true, implies_true]
  refine len_l (n := xs.length) (by simp) ⟨xs.length, rfl, h0, Nat.lt_trans hl (by decide), fun r hr => ?_⟩
  exact ⟨natD xs[r], atI_map (List.getElem?_eq_getElem hr), h _ (List.getElem_mem hr)⟩
theorem rd__law_row (h1 : G.S__law_draw = S__law_draw (tapeD P KV)) : Rd (S__law_row (tapeD P KV)) (d__law_row G) N__law_row.length := by
  rintro _ Q ⟨W, K, n, ok, hn, rfl, h⟩
  simp only [d__law_row, N__law_row, h1]
  simp only [rho0, List.map_cons, List.map_nil, List.length_cons, List.length_nil, List.cons_append, List.nil_append, List.replicate, Nat.sub_self, Nat.add_sub_cancel, dVar, dLook, dOp, dOpE, dMapB, dChain, dTst, dAnd, dOr, dNot, dAndV, dOrV, dNotV, dIf, dNil, dCons, bNil, bCons, dTup, dLst, dCB, dCall, sFor, dEnum, gTupD, gsCons, gsNil, gSet, dAct, dLc, dIlst, dItup, wipeR, dYes, dProp, dFld, dRng1, dIsC, Dc.rdAll, rdNe, rdEq, scalD, List.length_map, sFldD, dLst, dRng2, capS, lamL, rhoF, capSl, dDc, dDcN, sPutM, sPut, sdD, sdN, dDm, dMt, mdAppend, mdPop, dDk, sPar, sSeq, sIf, sRet, sSet, sExpr, sNext, sNever, vSh, vOw, dK1, dIsi, dIsi2, isD, rdI0, rdI, List.getElem?_cons_zero, List.getElem?_cons_succ, Nat.reduceAdd, Nat.reduceSub, List.set_cons_zero, List.set_cons_succ, Option.some.injEq, exists_eq_left', exists_eq_left, true_implies, false_implies, and_true, true_and, reduceCtorEq, Bool.not_true, Bool.not_false, Bool.false_eq_true, implies_true]
  refine ⟨n + 1, rfl, by omega, Nat.lt_of_le_of_lt (show n + 1 ≤ 201 by omega) (by decide), fun r hr => ?_⟩
  have n1 := ok.n1
  obtain ⟨r0, hr0⟩ : ∃ r, W.mv[0]? = some r := ⟨W.mv[0], by simp [n1]⟩
  have er := (ok.row r0 (mem_of hr0)).1
  have k1 := ok.k1
  have k4 := ok.k4
  refine (show _ ∧ _ ∧ _ ∧ _ ∧ _ from ⟨by omega, by omega, ?_, by rw [rng_len, sizeLine_eq]; omega, ?_⟩)
  · intro j hj d
    simp only [List.mem_cons, List.not_mem_nil, or_false] at hj
    subst hj
    simp
  refine ⟨fun i acc => ∃ row : List Nat, acc = row.map natD ∧ row.length = i ∧ ∀ x ∈ row, x < K, ⟨[], rfl, rfl, by simp⟩, fun i x acc hx ⟨row, e, hl, hm⟩ => ?_, fun acc ⟨row, e, hl, hm⟩ => ?_⟩
  · refine ⟨by decide, mvD W, rfl, ix_tup (j := 0) hr0 (len_t (n := K) (by rw [List.length_map, er]) ⟨K, rfl, by omega, Nat.lt_of_le_of_lt k4 (by decide), fun v hv => ?_⟩)⟩
    refine ⟨row ++ [v], by rw [e]; simp, by simp [hl], fun x hx => ?_⟩
    rcases List.mem_append.mp hx with z | z
    · exact hm x z
    · simp at z; omega
  · subst e
    rw [rng_len] at hl
    exact h row (by omega) hm
theorem rd__law_weights (h1 : G.S__law_draw = S__law_draw (tapeD P KV)) (h2 : G.S__law_pick = S__law_pick (tapeD P KV)) : Rd (S__law_weights (tapeD P KV)) (d__law_weights G) N__law_weights.length := by
  rintro _ Q ⟨K, hK, rfl, h⟩
  simp only [d__law_weights, N__law_weights, h1, h2]
  simp only [rho0, List.map_cons, List.map_nil, List.length_cons, List.length_nil, List.cons_append, List.nil_append, List.replicate, Nat.sub_self, Nat.add_sub_cancel, dVar, dLook, dOp, dOpE, dMapB, dChain, dTst, dAnd, dOr, dNot, dAndV, dOrV, dNotV, dIf, dNil, dCons, bNil, bCons, dTup, dLst, dCB, dCall, sFor, dEnum, gTupD, gsCons, gsNil, gSet, dAct, dLc, dIlst, dItup, wipeR, dYes, dProp, dFld, dRng1, dIsC, Dc.rdAll, rdNe, rdEq, scalD, List.length_map, sFldD, dLst, dRng2, capS, lamL, rhoF, capSl, dDc, dDcN, sPutM, sPut, sdD, sdN, dDm, dMt, mdAppend, mdPop, dDk, sPar, sSeq, sIf, sRet, sSet, sExpr, sNext, sNever, vSh, vOw, dK1, dIsi, dIsi2, isD, rdI0, rdI, List.getElem?_cons_zero, List.getElem?_cons_succ, Nat.reduceAdd, Nat.reduceSub, List.set_cons_zero, List.set_cons_succ, Option.some.injEq, exists_eq_left', exists_eq_left, true_implies, false_implies, and_true, true_and, reduceCtorEq, Bool.not_true, Bool.not_false, Bool.false_eq_true, implies_true]
  refine ⟨by omega, by omega, ?_, by rw [rng_len, sizeLine_eq]; omega, ?_⟩
  · intro j hj d
    simp only [List.mem_cons, List.not_mem_nil, or_false] at hj
    subst hj
    simp
  refine ⟨fun i acc => ∃ ws : List Nat, acc = ws.map natD ∧ ws.length = i ∧ ∀ x ∈ ws, 1 ≤ x ∧ x ≤ 30, ⟨[], rfl, rfl, by simp⟩, fun i x acc hx ⟨ws, e, hl, hm⟩ => ?_, fun acc ⟨ws, e, hl, hm⟩ => ?_⟩
  · refine ⟨by decide, 30, rfl, by decide, by decide, fun r hr => ?_⟩
    refine (show 6 ≤ sizeLine ∧ _ from ⟨by decide, [1, 1, 2, 3, 5, 1 + r], ?_, by simp, by simp, fun v hv => ?_⟩)
    · simp
    · refine ⟨ws ++ [v], by rw [e]; simp, by simp [hl], fun x hx => ?_⟩
      rcases List.mem_append.mp hx with z | z
      · exact hm x z
      · simp at z
        subst z
        simp at hv
        omega
  · subst e
    rw [rng_len] at hl
    exact h ws hl hm
end
end K33

namespace K33
open PySem PySem.Spec PyProof.Rows L2 Dc
variable [TabsT]
section
variable {P : Program} {KV : KW} (G : Gc P KV)
theorem rd__law_watch (h1 : G.S__law_draw = S__law_draw (tapeD P KV)) : Rd (S__law_watch (tapeD P KV)) (d__law_watch G) N__law_watch.length := by
  rintro _ Q ⟨n, K, w, rfl, n1, n6, k1, k4, w1, w4, h⟩
  simp only [d__law_watch, N__law_watch, h1]
  simp only [rho0, List.map_cons, List.map_nil, List.length_cons, List.length_nil, List.cons_append, List.nil_append, List.replicate, Nat.sub_self, Nat.add_sub_cancel, dVar, dLook, dOp, dOpE, dMapB, dChain, dTst, dAnd, dOr, dNot, dAndV, dOrV, dNotV, dIf, dNil, dCons, bNil, bCons, dTup, dLst, dCB, dCall, sFor, dEnum, gTupD, gsCons, gsNil, gSet, dAct, dLc, dIlst, dItup, wipeR, dYes, dProp, dFld, dRng1, dIsC, Dc.rdAll, rdNe, rdEq, scalD, List.length_map, sFldD, dLst, dRng2, capS, lamL, rhoF, capSl, dDc, dDcN, sPutM, sPut, sdD, sdN, dDm, dMt, mdAppend, mdPop, dDk, sPar, sSeq, sIf, sRet, sSet, sExpr, sNext, sNever, vSh, vOw, dK1, dIsi, dIsi2, isD, rdI0, rdI, List.getElem?_cons_zero, List.getElem?_cons_succ, Nat.reduceAdd, Nat.reduceSub, List.set_cons_zero, List.set_cons_succ, Option.some.injEq, exists_eq_left', exists_eq_left, true_implies, false_implies, and_true, true_and, reduceCtorEq, Bool.not_true, Bool.not_false, Bool.false_eq_true, implies_true]
  refine ⟨n, rfl, by omega, Nat.lt_of_le_of_lt n6 (by decide), fun r hr => ?_⟩
  simp only [rho0, List.map_cons, List.map_nil, List.length_cons, List.length_nil, List.cons_append, List.nil_append, List.replicate, Nat.sub_self, Nat.add_sub_cancel, dVar, dLook, dOp, dOpE, dMapB, dChain, dTst, dAnd, dOr, dNot, dAndV, dOrV, dNotV, dIf, dNil, dCons, bNil, bCons, dTup, dLst, dCB, dCall, sFor, dEnum, gTupD, gsCons, gsNil, gSet, dAct, dLc, dIlst, dItup, wipeR, dYes, dProp, dFld, dRng1, dIsC, Dc.rdAll, rdNe, rdEq, scalD, List.length_map, sFldD, dLst, dRng2, capS, lamL, rhoF, capSl, dDc, dDcN, sPutM, sPut, sdD, sdN, dDm, dMt, mdAppend, mdPop, dDk, sPar, sSeq, sIf, sRet, sSet, sExpr, sNext, sNever, vSh, vOw, dK1, dIsi, dIsi2, isD, rdI0, rdI, List.getElem?_cons_zero, List.getElem?_cons_succ, Nat.reduceAdd, Nat.reduceSub, List.set_cons_zero, List.set_cons_succ, Option.some.injEq, exists_eq_left', exists_eq_left, true_implies, false_implies, and_true, true_and, reduceCtorEq, Bool.not_true, Bool.not_false, Bool.false_eq_true, implies_true]
  have e1 : (1 + (r : Int)) = ((r + 1 : Nat) : Int) := by omega
  rw [e1]
  have okw : ∀ (a b c d e f g h : Sl) (j : Nat) (d' : D), [a, b, c, d, e, f, g, h][j]? = some .no ∨ (∃ y, [a, b, c, d, e, f, g, h][j]? = some (.sh y)) → OkW [a, b, c, d, e, f, g, h] [j] := by
    intro a b c d e f g h j d' hj i hi y
    simp only [List.mem_cons, List.not_mem_nil, or_false] at hi
    subst hi
    rcases hj with z | ⟨w, z⟩ <;> rw [z] <;> simp
  refine ⟨by omega, by omega, okw _ _ _ _ _ _ _ _ 6 .non (.inl rfl), by rw [rng_len, sizeLine_eq]; omega, ?_⟩
  refine ⟨fun i acc => ∃ rows : List (List Nat), acc = rows.map psD ∧ rows.length = i ∧ ∀ r' ∈ rows, r'.length = K ∧ ∀ x ∈ r', x < r + 1, ⟨[], rfl, rfl, by simp⟩, fun i x acc hx ⟨rows, e, hl, hm⟩ => ?_, fun acc ⟨rows, e, hl, hm⟩ => ?_⟩
  · refine ⟨by decide, by omega, by omega, okw _ _ _ _ _ _ _ _ 7 .non (.inl rfl), by rw [rng_len, sizeLine_eq]; omega, ?_⟩
    refine ⟨fun i acc => ∃ row : List Nat, acc = row.map natD ∧ row.length = i ∧ ∀ x ∈ row, x < r + 1, ⟨[], rfl, rfl, by simp⟩, fun i x acc hx ⟨row, e, hl, hm⟩ => ?_, fun acc1 ⟨row, e1, hl1, hm1⟩ => ?_⟩
    · refine ⟨by decide, r + 1, rfl, by omega, Nat.lt_of_le_of_lt (show r + 1 ≤ 6 by omega) (by decide), fun v hv => ?_⟩
      refine ⟨row ++ [v], by rw [e]; simp, by simp [hl], fun x hx => ?_⟩
      rcases List.mem_append.mp hx with z | z
      · exact hm x z
      · simp at z; omega
    · rw [rng_len] at hl1
      refine ⟨rows ++ [row], by rw [e, e1]; simp, by simp [hl], fun x hx => ?_⟩
      rcases List.mem_append.mp hx with z | z
      · exact hm x z
      · simp at z; subst z; exact ⟨hl1, hm1⟩
  · rw [rng_len] at hl
    subst e
    refine ⟨by omega, by omega, okw _ _ _ _ _ _ _ _ 6 .non (.inl rfl), by rw [rng_len, sizeLine_eq]; omega, ?_⟩
    refine ⟨fun i acc => ∃ row : List Nat, acc = row.map natD ∧ row.length = i ∧ ∀ x ∈ row, x < w, ⟨[], rfl, rfl, by simp⟩, fun i x acc hx ⟨row, e, hl, hm⟩ => ?_, fun acc1 ⟨row, e1, hl1, hm1⟩ => ?_⟩
    · refine ⟨by decide, w, rfl, by omega, Nat.lt_of_le_of_lt w4 (by decide), fun v hv => ?_⟩
      refine ⟨row ++ [v], by rw [e]; simp, by simp [hl], fun x hx => ?_⟩
      rcases List.mem_append.mp hx with z | z
      · exact hm x z
      · simp at z; omega
    · rw [rng_len] at hl1
      subst e1
      refine (show 2 ≤ sizeLine ∧ _ from ⟨by decide, h ⟨rows, row⟩ ⟨by show 1 ≤ rows.length; omega, by show rows.length ≤ 6; omega, fun r' hr' => ⟨(hm r' hr').1, fun x hx => by have := (hm r' hr').2 x hx; show x < rows.length; omega⟩, k1, k4, by show row.length = rows.length; omega, fun x hx => by have := hm1 x hx; omega⟩ (by show rows.length ≤ n; omega) hm1⟩)
def drawTail : DTS := (sSeq (sSet 2 (vSh (dOp rdMod (dCB rdInt (bCons (dOp rdDK (dLook 0) (dK1 (.str "rest"))) bNil)) (dLook 1)))) (sSeq (sPutM 0 sdD (dOp (rdI CDivW fun i j => .int (i / j)) (dCB rdInt (bCons (dOp rdDK (dLook 0) (dK1 (.str "rest"))) bNil)) (dLook 1)) (dK1 (.str "rest"))) (sRet (dVar 2))))
theorem tape_rest {l c : Addr} {cs : List Int} {r t : Int} {Q : D → Prop} (q : Q (.int r)) : rdDK (tapeX P KV l c cs r t) (.str "rest") Q := ⟨kRest, .int r, rfl, rfl, q⟩
theorem tape_put {l c : Addr} {cs : List Int} {r t r' : Int} {Q : D → Prop} (q : Q (tapeX P KV l c cs r' t)) : sdD (tapeX P KV l c cs r t) (.str "rest") (.int r') Q := ⟨kRest, rfl, by decide, q⟩
theorem rd_drawTail {a l c : Addr} {cs : List Int} {r t : Int} {n : Nat} {Q : D → Prop} (hr : 0 ≤ r) (ht : 0 ≤ t) (n0 : 0 < n) (n1 : n < 2 ^ 100) (h : ∀ r : Nat, r < n → Q (natD r)) :
    drawTail { nx := fun ρ => ∃ r' t' : Int, 0 ≤ r' ∧ 0 ≤ t' ∧ ρ[0]? = some (.my a (tapeX P KV l c cs r' t')) ∧ Q .non, rt := fun z ρ => ∃ r' t' : Int, 0 ≤ r' ∧ 0 ≤ t' ∧ ρ[0]? = some (.my a (tapeX P KV l c cs r' t')) ∧ Q z } [.my a (tapeX P KV l c cs r t), .sh (natD n), .no] := by
  unfold drawTail
  simp only [sSeq, sSet, vSh, dOp, dCB, bCons, bNil, dLook, dK1, List.getElem?_cons_zero, List.getElem?_cons_succ, List.set_cons_zero, List.set_cons_succ]
  have hn : (0 : Int) < (n : Int) := by omega
  have e1 : (r % (n : Int)) = (((r % (n : Int)).toNat : Nat) : Int) := by
    exact (Int.toNat_of_nonneg (Int.emod_nonneg r (by omega))).symm
  refine ⟨trivial, tape_rest ⟨trivial, ?_⟩⟩
  show True ∧ _
  refine ⟨trivial, ?_⟩
  show (0 : Int) < (n : Int) ∧ _
  refine ⟨hn, ?_⟩
  unfold sPutM
  simp only [dOp, dCB, bCons, bNil, dLook, dK1, List.getElem?_cons_zero, List.getElem?_cons_succ]
  refine ⟨trivial, tape_rest ⟨trivial, ?_⟩⟩
  show True ∧ _
  refine ⟨trivial, ?_⟩
  refine (show CDivW r (n : Int) ∧ _ from ⟨wide_div hn n1 (by decide) (by decide), ⟨_, _, rfl⟩, a, _, rfl, tape_put ?_⟩)
  refine ⟨r / n, t, Int.ediv_nonneg hr (by omega), ht, rfl, ?_⟩
  rw [e1]
  exact h _ (by have := Int.emod_lt_of_pos r hn; omega)
theorem rd__law_draw (h1 : G.S__law_blend = S__law_blend P KV) : ∀ es Q, S__law_draw (tapeD P KV) (tapeD P KV :: es) Q → ∀ (a l c : Addr) (cs : List Int) (r t : Int), nat0 cs → 0 ≤ r → 0 ≤ t →
    d__law_draw G { nx := fun ρ => ∃ r' t' : Int, 0 ≤ r' ∧ 0 ≤ t' ∧ ρ[0]? = some (.my a (tapeX P KV l c cs r' t')) ∧ Q .non, rt := fun z ρ => ∃ r' t' : Int, 0 ≤ r' ∧ 0 ≤ t' ∧ ρ[0]? = some (.my a (tapeX P KV l c cs r' t')) ∧ Q z } (rho1 N__law_draw.length a (tapeX P KV l c cs r t) es) := by
  rintro es Q ⟨n, e, n0, n1, h⟩ a l c cs r t hcs hr ht
  obtain rfl : es = [natD n] := by simpa using e
  have hd : d__law_draw G = sSeq (sIf (dTst (dOp rdEq (dOp rdDK (dLook 0) (dK1 (.str "rest"))) (dK1 (.int 0)))) (sPutM 0 sdD (dRefillP P KV 0 (dCallM 0 G.S__law_blend)) (dK1 (.str "rest"))) sNext) drawTail := rfl
  have hρ : rho1 N__law_draw.length a (tapeX P KV l c cs r t) [natD n] = [.my a (tapeX P KV l c cs r t), .sh (natD n), .no] := rfl
  rw [hd, hρ, h1]
  simp only [sSeq, sIf, dTst, dOp, dLook, dK1, List.getElem?_cons_zero]
  refine ⟨trivial, tape_rest ⟨trivial, ?_⟩⟩
  refine (show (decide (r = 0) = true → _) ∧ (decide (r = 0) = false → _) from ⟨fun _ => ?_, fun _ => rd_drawTail hr ht n0 n1 h⟩)
  have put : ∀ (v t' : Int), 0 ≤ v → 0 ≤ t' → sdD (tapeX P KV l c cs r t') (.str "rest") (.int v) fun x' => drawTail { nx := fun ρ => ∃ r' t' : Int, 0 ≤ r' ∧ 0 ≤ t' ∧ ρ[0]? = some (.my a (tapeX P KV l c cs r' t')) ∧ Q .non, rt := fun z ρ => ∃ r' t' : Int, 0 ≤ r' ∧ 0 ≤ t' ∧ ρ[0]? = some (.my a (tapeX P KV l c cs r' t')) ∧ Q z } [.my a x', .sh (natD n), .no] :=
    fun v t' hv ht' => tape_put (rd_drawTail hv ht' n0 n1 h)
  unfold sPutM dRefillP dCallM
  refine ⟨⟨a, l, c, cs, r, t, rfl⟩, fun v hv => ⟨⟨_, _, rfl⟩, a, _, rfl, put v t hv ht⟩, a, _, rfl, l, c, cs, r, t, rfl, rfl, hcs, hr, ht, fun v t' hv ht' => ?_⟩
  exact ⟨⟨_, _, rfl⟩, a, _, rfl, put v t' hv ht'⟩
end
end K33

namespace K33
open PySem PySem.Spec PyProof.Rows L2 Dc
variable [TabsT]
section
variable {P : Program} {KV : KW} (G : Gc P KV)
theorem tape_turn {l c : Addr} {cs : List Int} {r t : Int} {Q : D → Prop} (q : Q (.int t)) : rdDK (tapeX P KV l c cs r t) (.str "turn") Q := ⟨kTurn, .int t, rfl, rfl, q⟩
theorem tape_cells {l c : Addr} {cs : List Int} {r t : Int} {Q : D → Prop} (q : Q (cellsD KV.K c cs)) : rdDK (tapeX P KV l c cs r t) (.str "cells") Q := ⟨kCells, cellsD KV.K c cs, rfl, rfl, q⟩
theorem tape_putT {l c : Addr} {cs : List Int} {r t t' : Int} {Q : D → Prop} (q : Q (tapeX P KV l c cs r t')) : sdD (tapeX P KV l c cs r t) (.str "turn") (.int t') Q := ⟨kTurn, rfl, by decide, q⟩
def greats : List D := [.int 2147483629, .int 2147483587, .int 2147483579]
theorem greats_at {i : Nat} {x : D} (h : greats[i]? = some x) : ∃ g : Int, x = .int g ∧ 0 < g ∧ g < 2 ^ 31 := by
  unfold greats at h
  rcases i with _ | _ | _ | i
  · exact ⟨_, (Option.some.inj h).symm, by decide, by decide⟩
  · exact ⟨_, (Option.some.inj h).symm, by decide, by decide⟩
  · exact ⟨_, (Option.some.inj h).symm, by decide, by decide⟩
  · simp at h
theorem mod_bd {a g : Int} (h : 0 < g) : 0 ≤ a % g ∧ a % g < g := ⟨Int.emod_nonneg a (by omega), Int.emod_lt_of_pos a h⟩
theorem rd__law_blend : ∀ a x0 ds Q, S__law_blend P KV x0 ds Q → d__law_blend G { nx := fun ρ => ∃ x', ρ[0]? = some (.my a x') ∧ Q .non x', rt := fun z ρ => ∃ x', ρ[0]? = some (.my a x') ∧ Q z x' } (rho1 N__law_blend.length a x0 ds) := by
  rintro a x0 ds Q ⟨l, c, cs, r, t, rfl, rfl, hcs, hr, ht, h⟩
  simp only [d__law_blend, N__law_blend, rho1]
  unfold dCells
  simp only [rho0, List.map_cons, List.map_nil, List.length_cons, List.length_nil, List.cons_append, List.nil_append, List.replicate, Nat.sub_self, Nat.add_sub_cancel, dVar, dLook, dOp, dOpE, dMapB, dChain, dTst, dAnd, dOr, dNot, dAndV, dOrV, dNotV, dIf, dNil, dCons, bNil, bCons, dTup, dLst, dCB, dCall, sFor, dEnum, gTupD, gsCons, gsNil, gSet, dAct, dLc, dIlst, dItup, wipeR, dYes, dProp, dFld, dRng1, dIsC, Dc.rdAll, rdNe, rdEq, scalD, List.length_map, sFldD, dLst, dRng2, capS, lamL, rhoF, capSl, dDc, dDcN, sPutM, sPut, sdD, sdN, dDm, dMt, mdAppend, mdPop, dDk, sPar, sSeq, sIf, sRet, sSet, sExpr, sNext, sNever, vSh, vOw, dK1, dIsi, dIsi2, isD, rdI0, rdI, List.getElem?_cons_zero, List.getElem?_cons_succ, Nat.reduceAdd, Nat.reduceSub, List.set_cons_zero, List.set_cons_succ, Option.some.injEq, exists_eq_left', exists_eq_left, true_implies, false_implies, and_true, true_and, reduceCtorEq, Bool.not_true, Bool.not_false, Bool.false_eq_true, implies_true]
  refine tape_turn ⟨⟨_, _, rfl⟩, a, _, rfl, kTurn, rfl, by decide, ?_⟩
  refine (show rdDK (tapeX P KV l c cs r (t + 1)) (.str "turn") _ from tape_turn ?_)
  refine (show 3 ≤ sizeLine ∧ _ from ⟨by decide, fun i ρ => ∃ f a3 a4 a5, ρ = [.my a (tapeX P KV l c cs r (t + 1)), .sh (.int (t + 1)), .sh (.int f), a3, a4, a5] ∧ 0 ≤ f, ⟨0, _, _, _, rfl, by decide⟩, fun i x ρ hx ⟨f, a3, a4, a5, e, hf⟩ => ?_, fun ρ ⟨f, a3, a4, a5, e, hf⟩ => ?_⟩)
  · obtain ⟨g, rfl, g0, g1⟩ := greats_at hx
    subst e
    simp only [rho0, List.map_cons, List.map_nil, List.length_cons, List.length_nil, List.cons_append, List.nil_append, List.replicate, Nat.sub_self, Nat.add_sub_cancel, dVar, dLook, dOp, dOpE, dMapB, dChain, dTst, dAnd, dOr, dNot, dAndV, dOrV, dNotV, dIf, dNil, dCons, bNil, bCons, dTup, dLst, dCB, dCall, sFor, dEnum, gTupD, gsCons, gsNil, gSet, dAct, dLc, dIlst, dItup, wipeR, dYes, dProp, dFld, dRng1, dIsC, Dc.rdAll, rdNe, rdEq, scalD, List.length_map, sFldD, dLst, dRng2, capS, lamL, rhoF, capSl, dDc, dDcN, sPutM, sPut, sdD, sdN, dDm, dMt, mdAppend, mdPop, dDk, sPar, sSeq, sIf, sRet, sSet, sExpr, sNext, sNever, vSh, vOw, dK1, dIsi, dIsi2, isD, rdI0, rdI, List.getElem?_cons_zero, List.getElem?_cons_succ, Nat.reduceAdd, Nat.reduceSub, List.set_cons_zero, List.set_cons_succ, Option.some.injEq, exists_eq_left', exists_eq_left, true_implies, false_implies, and_true, true_and, reduceCtorEq, Bool.not_true, Bool.not_false, Bool.false_eq_true, implies_true]
    have b1 := mod_bd (a := (t + 1) * 69621 + g / 7) g0
    refine ⟨by decide, .inr (by decide), ⟨by decide, by decide⟩, g0, tape_cells ⟨c, cs, rfl, fun i ρ => ∃ b z, ρ = [.my a (tapeX P KV l c cs r (t + 1)), .sh (.int (t + 1)), .sh (.int f), .sh (.int g), .sh (.int b), z] ∧ 0 ≤ b ∧ b < g, ⟨_, _, rfl, b1⟩, fun i x ρ hx ⟨b, z, e, hb⟩ => ?_, fun ρ ⟨b, z, e, hb⟩ => ?_⟩⟩
    · obtain ⟨n, hn, rfl⟩ := getMap hx
      subst e
      simp only [rho0, List.map_cons, List.map_nil, List.length_cons, List.length_nil, List.cons_append, List.nil_append, List.replicate, Nat.sub_self, Nat.add_sub_cancel, dVar, dLook, dOp, dOpE, dMapB, dChain, dTst, dAnd, dOr, dNot, dAndV, dOrV, dNotV, dIf, dNil, dCons, bNil, bCons, dTup, dLst, dCB, dCall, sFor, dEnum, gTupD, gsCons, gsNil, gSet, dAct, dLc, dIlst, dItup, wipeR, dYes, dProp, dFld, dRng1, dIsC, Dc.rdAll, rdNe, rdEq, scalD, List.length_map, sFldD, dLst, dRng2, capS, lamL, rhoF, capSl, dDc, dDcN, sPutM, sPut, sdD, sdN, dDm, dMt, mdAppend, mdPop, dDk, sPar, sSeq, sIf, sRet, sSet, sExpr, sNext, sNever, vSh, vOw, dK1, dIsi, dIsi2, isD, rdI0, rdI, List.getElem?_cons_zero, List.getElem?_cons_succ, Nat.reduceAdd, Nat.reduceSub, List.set_cons_zero, List.set_cons_succ, Option.some.injEq, exists_eq_left', exists_eq_left, true_implies, false_implies, and_true, true_and, reduceCtorEq, Bool.not_true, Bool.not_false, Bool.false_eq_true, implies_true]
      refine ⟨by decide, .inr (by decide), ?_⟩
      exact (show 0 < g ∧ _ from ⟨g0, _, _, rfl, mod_bd g0⟩)
    · subst e
      simp only [rho0, List.map_cons, List.map_nil, List.length_cons, List.length_nil, List.cons_append, List.nil_append, List.replicate, Nat.sub_self, Nat.add_sub_cancel, dVar, dLook, dOp, dOpE, dMapB, dChain, dTst, dAnd, dOr, dNot, dAndV, dOrV, dNotV, dIf, dNil, dCons, bNil, bCons, dTup, dLst, dCB, dCall, sFor, dEnum, gTupD, gsCons, gsNil, gSet, dAct, dLc, dIlst, dItup, wipeR, dYes, dProp, dFld, dRng1, dIsC, Dc.rdAll, rdNe, rdEq, scalD, List.length_map, sFldD, dLst, dRng2, capS, lamL, rhoF, capSl, dDc, dDcN, sPutM, sPut, sdD, sdN, dDm, dMt, mdAppend, mdPop, dDk, sPar, sSeq, sIf, sRet, sSet, sExpr, sNext, sNever, vSh, vOw, dK1, dIsi, dIsi2, isD, rdI0, rdI, List.getElem?_cons_zero, List.getElem?_cons_succ, Nat.reduceAdd, Nat.reduceSub, List.set_cons_zero, List.set_cons_succ, Option.some.injEq, exists_eq_left', exists_eq_left, true_implies, false_implies, and_true, true_and, reduceCtorEq, Bool.not_true, Bool.not_false, Bool.false_eq_true, implies_true]
      refine ⟨.inr (by decide), ⟨by decide, by decide, by omega⟩, g0, _, _, _, _, rfl, ?_⟩
      have b2 := mod_bd (a := b ^ (5 : Int).toNat) g0
      have : 0 ≤ f * 2147483647 := Int.mul_nonneg hf (by decide)
      omega
  · subst e
    exact ⟨_, rfl, h f (t + 1) hf (by omega)⟩
def S__law_begun (P : Program) (K : KW) : SD := fun ds Q => ∃ ns : List Int, ds = [.lst (ns.map D.int)] ∧ ns.length ≤ 1000 ∧ Q (tapeD P K)
theorem abs0 (i : Int) : 0 ≤ (if i < 0 then -i else i) := by split <;> omega
theorem rd__law_begun : Rd (S__law_begun P KV) (d__law_begun G) N__law_begun.length := by
  rintro _ Q ⟨ns, rfl, hl, h⟩
  simp only [d__law_begun, N__law_begun]
  unfold dBegun0
  simp only [rho0, List.map_cons, List.map_nil, List.length_cons, List.length_nil, List.cons_append, List.nil_append, List.replicate, Nat.sub_self, Nat.add_sub_cancel, dVar, dLook, dOp, dOpE, dMapB, dChain, dTst, dAnd, dOr, dNot, dAndV, dOrV, dNotV, dIf, dNil, dCons, bNil, bCons, dTup, dLst, dCB, dCall, sFor, dEnum, gTupD, gsCons, gsNil, gSet, dAct, dLc, dIlst, dItup, wipeR, dYes, dProp, dFld, dRng1, dIsC, Dc.rdAll, rdNe, rdEq, scalD, List.length_map, sFldD, dLst, dRng2, capS, lamL, rhoF, capSl, dDc, dDcN, sPutM, sPut, sdD, sdN, dDm, dMt, mdAppend, mdPop, dDk, sPar, sSeq, sIf, sRet, sSet, sExpr, sNext, sNever, vSh, vOw, dK1, dIsi, dIsi2, isD, rdI0, rdI, List.getElem?_cons_zero, List.getElem?_cons_succ, Nat.reduceAdd, Nat.reduceSub, List.set_cons_zero, List.set_cons_succ, Option.some.injEq, exists_eq_left', exists_eq_left, true_implies, false_implies, and_true, true_and, reduceCtorEq, Bool.not_true, Bool.not_false, Bool.false_eq_true, implies_true]
  refine ⟨okw1 (by simp), by rw [sizeLine_eq]; omega, fun i acc => ∃ ms : List Int, acc = ms.map D.int ∧ nat0 ms, ⟨[], rfl, fun _ h => (nomatch h)⟩, fun i x acc hx ⟨ms, e, hm⟩ => ?_, fun acc ⟨ms, e, hm⟩ => ?_⟩
  · obtain ⟨n, hn, rfl⟩ := getMap hx
    subst e
    have hc : CPow 10 18 := ⟨by decide, by decide, by decide⟩
    have a0 := abs0 n
    refine ⟨by decide, (show rdAbs [D.int n] _ from ?_)⟩
    refine (show CPow 10 18 ∧ ((decide ((10 : Int) ^ Int.toNat 18 ≤ (if n < 0 then -n else n)) = true → _) ∧ (decide ((10 : Int) ^ Int.toNat 18 ≤ (if n < 0 then -n else n)) = false → _)) from ⟨hc, fun hb => ?_, fun hb => ?_⟩)
    · have hb := of_decide_eq_true hb
      refine (show CPow 10 18 ∧ _ from ⟨hc, ms ++ [(if n < 0 then -n else n) - (10 : Int) ^ Int.toNat 18], ?_, fun x hx => ?_⟩)
      · rw [List.map_append]; rfl
      · rcases List.mem_append.mp hx with z | z
        · exact hm x z
        · simp only [List.mem_singleton] at z; rw [z]; omega
    · exact ⟨ms, rfl, hm⟩
  · subst e
    refine ⟨⟨ms, rfl, hm⟩, okw1 (by simp), by rw [sizeLine_eq]; omega, fun i acc => ∃ ms : List Int, acc = ms.map D.int ∧ nat0 ms, ⟨[], rfl, fun _ h => (nomatch h)⟩, fun i x acc hx ⟨ms, e, hm⟩ => ?_, fun acc ⟨ms, e, hm⟩ => ?_⟩
    · obtain ⟨n, hn, rfl⟩ := getMap hx
      subst e
      refine ⟨by decide, (show rdAbs [D.int n] _ from ⟨ms ++ [if n < 0 then -n else n], ?_, fun x hx => ?_⟩)⟩
      · rw [List.map_append]; rfl
      · rcases List.mem_append.mp hx with z | z
        · exact hm x z
        · simp only [List.mem_singleton] at z; rw [z]; exact abs0 n
    · subst e
      exact ⟨⟨ms, rfl, hm⟩, h⟩
end
end K33

namespace K33
open PySem PySem.Spec PyProof.Rows L2 Dc
variable [TabsT]
/-! the law, statement by statement (these parts are printed by split.py) -/
def law_2 {P : Program} {KV : KW} (G : Gc P KV) : DTS := (sRet (dK1 (.bl true)))
def law_1b10 {P : Program} {KV : KW} (G : Gc P KV) : DTS := (sIf (dTst (dOp rdNeD (dLook 14) (dTup (dCons (dOp rdIx (dOp rdIx (dLook 5) (dK1 (.int 1))) (dCall G.S__law_place [] (dCons (dVar 5) (dCons (dVar 9) dNil)))) dNil)))) (sRet (dK1 (.bl false))) sNext)
def law_1b9b5 {P : Program} {KV : KW} (G : Gc P KV) : DTS := (sSet 14 (vSh (dVar 11)))
def law_1b9b4 {P : Program} {KV : KW} (G : Gc P KV) : DTS := (sSeq (sIf (dTst (dOp rdNeD (dLc (dItup (dVar 11)) (gSet 18) (dTst (dOp (rdIn true) (dLook 18) (dLook 14))) (dK1 (.int 1)) [18]) (dLst dNil))) (sRet (dK1 (.bl false))) sNext) (law_1b9b5 G))
def law_1b9b3 {P : Program} {KV : KW} (G : Gc P KV) : DTS := (sSeq (sSet 11 (vSh (dCallB G.S_leak [] (bCons (dLook 6) (bCons (dLook 7) (bCons (dLook 10) (bCons (dK1 (.str "counted")) bNil))))))) (law_1b9b4 G))
def law_1b9b2 {P : Program} {KV : KW} (G : Gc P KV) : DTS := (sSeq (sPut 10 sdL (dOp rdIx (dLook 9) (dOp rdIx (dLook 16) (dK1 (.int 0)))) (dOp rdIx (dLook 16) (dK1 (.int 0)))) (law_1b9b3 G))
def law_1b9b1 {P : Program} {KV : KW} (G : Gc P KV) : DTS := (sSeq (sIf (dTst (dMapB isNonD (dLook 16))) sBrk sNext) (law_1b9b2 G))
def law_1b9b0 {P : Program} {KV : KW} (G : Gc P KV) : DTS := (sSeq (sSet 16 (vSh (dCallB G.S_most_telling [] (bCons (dLook 7) (bCons (dLook 10) (bCons (dLook 8) bNil)))))) (law_1b9b1 G))
def law_1b9 {P : Program} {KV : KW} (G : Gc P KV) : DTS := (sSeq (sFor (dRng1 (bCons (dOp rdAdd (dCB rdLen (bCons (dLook 9) bNil)) (dK1 (.int 1))) bNil)) (gSet 15) (law_1b9b0 G)) (law_1b10 G))
def law_1b8 {P : Program} {KV : KW} (G : Gc P KV) : DTS := (sSeq (sSet 14 (vSh (dVar 11))) (law_1b9 G))
def law_1b7b1 {P : Program} {KV : KW} (G : Gc P KV) : DTS := (sIf (dOr (dTst (dOp rdNeD (dCB rdTup (bCons (dSortedSet (dLc (dItup (dVar 13)) (gTupD 2 (gsCons (gSet 19) (gsCons (gSet 20) gsNil))) dYes (dVar 19) [19, 20])) bNil)) (dCallB G.S_can_lead [] (bCons (dLook 6) (bCons (dLook 10) (bCons (dLook 12) bNil)))))) (dTst (dOp rdNeD (dCB rdTup (bCons (dSortedSet (dLc (dItup (dVar 13)) (gTupD 2 (gsCons (gSet 19) (gsCons (gSet 20) gsNil))) dYes (dVar 20) [19, 20])) bNil)) (dCallB G.S_can_lead [] (bCons (dLook 7) (bCons (dLook 10) (bCons (dLook 12) bNil))))))) (sRet (dK1 (.bl false))) sNext)
def law_1b7b0 {P : Program} {KV : KW} (G : Gc P KV) : DTS := (sSeq (sSet 13 (vSh (dCallB G.S_both_lead [] (bCons (dLook 6) (bCons (dLook 7) (bCons (dLook 10) (bCons (dLook 12) bNil))))))) (law_1b7b1 G))
def law_1b7 {P : Program} {KV : KW} (G : Gc P KV) : DTS := (sSeq (sFor (dIlst (dLst (dCons (dK1 (.str "counted")) (dCons (dK1 (.str "lost")) dNil)))) (gSet 12) (law_1b7b0 G)) (law_1b8 G))
def law_1b6 {P : Program} {KV : KW} (G : Gc P KV) : DTS := (sSeq (sIf (dOr (dTst (dOp rdNeD (dLook 11) (dCB rdTup (bCons (dCB rdSrtD (bCons (dCallB G.S_odds [] (bCons (dLook 7) (bCons (dLook 10) (bCons (dLook 8) bNil)))) bNil)) bNil)))) (dTst (dOp rdNeD (dLc (dItup (dVar 11)) (gSet 18) (dTst (dOp (rdIn true) (dLook 18) (dCallB G.S_leak [] (bCons (dLook 6) (bCons (dLook 7) (bCons (dLook 10) (bCons (dK1 (.str "lost")) bNil))))))) (dK1 (.int 1)) [18]) (dLst dNil)))) (sRet (dK1 (.bl false))) sNext) (law_1b7 G))
def law_1b5 {P : Program} {KV : KW} (G : Gc P KV) : DTS := (sSeq (sSet 11 (vSh (dCallB G.S_leak [] (bCons (dLook 6) (bCons (dLook 7) (bCons (dLook 10) (bCons (dK1 (.str "counted")) bNil))))))) (law_1b6 G))
def law_1b4 {P : Program} {KV : KW} (G : Gc P KV) : DTS := (sSeq (sSet 10 (vOw (dLc (dItup (dVar 9)) (gSet 17) dYes (dIf (dTst (dOp rdEq (dCall G.S__law_draw [] (dCons (dVar 1) (dCons (dK1 (.int 2)) dNil))) (dK1 (.int 0)))) (dK1 .non) (dVar 17)) [17]))) (law_1b5 G))
def law_1b3 {P : Program} {KV : KW} (G : Gc P KV) : DTS := (sSeq (sSet 9 (vSh (dCall G.S__law_row [] (dCons (dVar 1) (dCons (dVar 4) (dCons (dK1 (.int 8)) dNil)))))) (law_1b4 G))
def law_1b2 {P : Program} {KV : KW} (G : Gc P KV) : DTS := (sSeq (sAsg (dTup (dCons (dCall G.S__law_made [] (dCons (dVar 4) dNil)) (dCons (dCall G.S__law_made [] (dCons (dVar 5) dNil)) (dCons (dCall G.S__law_weights [] (dCons (dVar 1) (dCons (dVar 3) dNil))) dNil)))) (gTupD 3 (gsCons (gSet 6) (gsCons (gSet 7) (gsCons (gSet 8) gsNil))))) (law_1b3 G))
def law_1b1 {P : Program} {KV : KW} (G : Gc P KV) : DTS := (sSeq (sPar 4 5 (vSh (dCall G.S__law_watch [] (dCons (dVar 1) (dCons (dK1 (.int 4)) (dCons (dVar 3) (dCons (dK1 (.int 2)) dNil)))))) (vSh (dCall G.S__law_watch [] (dCons (dVar 1) (dCons (dK1 (.int 4)) (dCons (dVar 3) (dCons (dK1 (.int 3)) dNil))))))) (law_1b2 G))
def law_1b0 {P : Program} {KV : KW} (G : Gc P KV) : DTS := (sSeq (sSet 3 (vSh (dOp rdAdd (dK1 (.int 2)) (dCall G.S__law_draw [] (dCons (dVar 1) (dCons (dK1 (.int 2)) dNil)))))) (law_1b1 G))
def law_1 {P : Program} {KV : KW} (G : Gc P KV) : DTS := (sSeq (sFor (dRng1 (bCons (dOp rdAdd (dK1 (.int 4)) (dCB rdMin2 (bCons (dCB rdLen (bCons (dLook 0) bNil)) (bCons (dK1 (.int 8)) bNil)))) bNil)) (gSet 2) (law_1b0 G)) (law_2 G))
def law_0 {P : Program} {KV : KW} (G : Gc P KV) : DTS := (sSeq (sSet 1 (vSh (dCall G.S__law_begun [] (dCons (dVar 0) dNil)))) (law_1 G))
section
variable {P : Program} {KV : KW} (G : Gc P KV)
theorem law_parts : d_law G = law_0 G := rfl
theorem ne_same {x : D} {d : PyData} {Q : D → Prop} (h : toPy x = some d) (sh : SeqAt.shaped d = true) (q : Q (.bl false)) : rdNeD x x Q := by
  refine ⟨d, d, h, h, sh, sh, ?_⟩
  have c : d.canLay0 = true := by
    unfold SeqAt.shaped at sh
    exact (Bool.and_eq_true_iff.mp sh).1
  rw [SeqAt.eqv_refl d c]
  exact q
theorem toPy_ps (l : List Nat) : toPy (psD l) = some (.tuple (l.map fun n : Nat => PyData.int (n : Int))) := by
  show (toPys (l.map natD)).map PyData.tuple = _
  rw [toPys_map natD _ py_nat l]
  rfl
theorem ps_shaped (l : List Nat) : SeqAt.shaped (.tuple (l.map fun n : Nat => PyData.int (n : Int))) = true := by
  rw [ints_map]
  unfold SeqAt.shaped
  rw [show PyData.canLay0 (.tuple ((l.map fun n : Nat => (n : Int)).map .int)) = true from ints_lay _]
  have : PyData.depth (.tuple ((l.map fun n : Nat => (n : Int)).map .int)) ≤ 64 := by
    unfold PyData.depth
    rw [ints_depth]
    decide
  rw [decide_eq_true this]
  rfl
theorem ne_ps {l m : List Nat} {Q : D → Prop} (e : l = m) (q : Q (.bl false)) : rdNeD (psD l) (psD m) Q := by
  subst e
  exact ne_same (toPy_ps l) (ps_shaped l) q
theorem ne_nils {Q : D → Prop} (q : Q (.bl false)) : rdNeD (.lst []) (.lst []) Q := ne_same rfl rfl q
abbrev St (ns : List Int) (T : D) (a2 a3 a4 a5 a6 a7 a8 a9 a10 a11 a12 a13 a14 a15 a16 : Sl) : Rho := [.sh (.lst (ns.map D.int)), .sh T, a2, a3, a4, a5, a6, a7, a8, a9, a10, a11, a12, a13, a14, a15, a16, .no, .no, .no, .no]
def OkO (a : Sl) : Prop := NoO a ∨ ∃ xs, a = .ow (.lst xs)
/-- between laps -/
def WL (ns : List Int) (T : D) (ρ : Rho) : Prop := ∃ a2 a3 a4 a5 a6 a7 a8 a9 a10 a11 a12 a13 a14 a15 a16 : Sl, ρ = St ns T a2 a3 a4 a5 a6 a7 a8 a9 a10 a11 a12 a13 a14 a15 a16 ∧
  (NoO a2 ∧ NoO a3 ∧ NoO a4 ∧ NoO a5 ∧ NoO a6 ∧ NoO a7 ∧ NoO a8 ∧ NoO a9) ∧ OkO a10 ∧ NoO a11 ∧ NoO a12 ∧ NoO a13 ∧ NoO a14 ∧ NoO a15 ∧ NoO a16
/-- what a lap has drawn -/
structure Lp where
  K : Nat
  V : Wt
  W : Wt
  ws : List Nat
  row : List Nat
structure Lp.Ok (l : Lp) : Prop where
  okV : l.V.Ok l.K
  okW : l.W.Ok l.K
  wt : Wts l.K l.ws
  rk : ∀ x ∈ l.row, x < l.K
  r8 : l.row.length ≤ 8
/-- within a lap -/
abbrev Sm (ns : List Int) (T : D) (C : Addr) (l : Lp) (s : List (Option Nat)) (a2 w a12 a13 a14 a15 a16 : Sl) : Rho :=
  St ns T a2 (.sh (natD l.K)) (.sh (twD l.V)) (.sh (twD l.W)) (.sh (wD C l.V)) (.sh (wD C l.W)) (.sh (lsD l.ws)) (.sh (psD l.row)) (.ow (shD s)) w a12 a13 a14 a15 a16
variable {ns : List Int} {l : Lp} {E : DEnds}
theorem walk_lt {W : Wt} {K : Nat} (ok : W.Ok K) {row : List Nat} : (∀ x ∈ row, x < K) → walkW W row < W.mv.length := by
  induction row using snoc_ind with
  | h0 => exact fun _ => ok.n1
  | h1 row k ih =>
    intro h
    have e : walkW W (row ++ [k]) = go W (walkW W row) k := by unfold walkW; rw [List.foldl_append]; rfl
    rw [e]
    exact go_lt ok (ih fun x hx => h x (List.mem_append_left _ hx)) (h k (by simp))
theorem lap10 (h1 : G.S__law_place = S__law_place) (ok : l.Ok) (hE : ∀ ρ, WL ns (tapeD P KV) ρ → E.nx ρ) {s : List (Option Nat)} {a2 w a12 a13 a15 a16 : Sl} (n2 : NoO a2) (nw : NoO w) (n12 : NoO a12) (n13 : NoO a13) (n15 : NoO a15) (n16 : NoO a16) :
    law_1b10 G E (Sm ns (tapeD P KV) G.C l s a2 w a12 a13 (.sh (psD [wo l.W (walkW l.W l.row)])) a15 a16) := by
  simp only [law_1b10, h1]
  simp only [rho0, List.map_cons, List.map_nil, List.length_cons, List.length_nil, List.cons_append, List.nil_append, List.replicate, Nat.sub_self, Nat.add_sub_cancel, dVar, dLook, dOp, dOpE, dMapB, dChain, dTst, dAnd, dOr, dNot, dAndV, dOrV, dNotV, dIf, dNil, dCons, bNil, bCons, dTup, dLst, dCB, dCall, sFor, dEnum, gTupD, gsCons, gsNil, gSet, dAct, dLc, dIlst, dItup, wipeR, dYes, dProp, dFld, dRng1, dIsC, Dc.rdAll, rdNe, rdEq, scalD, List.length_map, sFldD, dLst, dRng2, capS, lamL, rhoF, capSl, dDc, dDcN, sPutM, sPut, sdD, sdN, dDm, dMt, mdAppend, mdPop, dDk, sPar, sSeq, sIf, sRet, sSet, sExpr, sNext, sNever, vSh, vOw, dK1, dIsi, dIsi2, isD, rdI0, rdI, List.getElem?_cons_zero, List.getElem?_cons_succ, Nat.reduceAdd, Nat.reduceSub, List.set_cons_zero, List.set_cons_succ, Option.some.injEq, exists_eq_left', exists_eq_left, true_implies, false_implies, and_true, true_and, reduceCtorEq, Bool.not_true, Bool.not_false, Bool.false_eq_true, implies_true]
  have wl := walk_lt ok.okW ok.rk
  refine ⟨psD l.W.wd, rfl, l.W, l.K, l.row, ok.okW, ok.rk, rfl, ix_tup (wo_at ok.okW wl) ⟨by decide, ?_⟩⟩
  refine ne_ps (l := [wo l.W (walkW l.W l.row)]) (m := [wo l.W (walkW l.W l.row)]) rfl ?_
  exact ⟨fun e => (nomatch e), fun _ => hE _ ⟨_, _, _, _, _, _, _, _, _, _, _, _, _, _, _, rfl, ⟨n2, .inr ⟨_, rfl⟩, .inr ⟨_, rfl⟩, .inr ⟨_, rfl⟩, .inr ⟨_, rfl⟩, .inr ⟨_, rfl⟩, .inr ⟨_, rfl⟩, .inr ⟨_, rfl⟩⟩, .inr ⟨_, rfl⟩, nw, n12, n13, .inr ⟨_, rfl⟩, n15, n16⟩⟩
/-- the verdicts that leak -/
def lkP (l : Lp) (m : Bool) (s : List (Option Nat)) (x : Nat) : Prop := ∃ p, ledP l.V l.W l.K m s p ∧ wo l.W p.2 = x
structure LookI (l : Lp) (s : List (Option Nat)) (q : List Nat) : Prop where
  pt : Part l.row s
  lk : SetIs q (lkP l true s)
theorem Lp.Ok.sh {l : Lp} (ok : l.Ok) {s : List (Option Nat)} (h : Part l.row s) : Sh l.K s := ⟨by rw [h.1]; have := ok.r8; omega, fun k hk => by
  obtain ⟨i, hi, e⟩ := List.getElem_of_mem hk
  have e2 : s[i]? = some (some k) := by rw [List.getElem?_eq_getElem hi, e]
  rcases h.2 i with z | z
  · rw [e2] at z; cases z
  · rw [e2] at z
    obtain ⟨k', hk', e3⟩ := Option.map_eq_some_iff.mp z.symm
    cases e3
    exact ok.rk _ (mem_of hk')⟩
theorem LookI.last {s : List (Option Nat)} {q : List Nat} (h : LookI l s q) (u : unk s = 0) : q = [wo l.W (walkW l.W l.row)] := by
  have e := h.pt.full u
  refine sorted_eq h.lk.so (by simp) fun x => ?_
  rw [h.lk.me x]
  unfold lkP
  constructor
  · rintro ⟨p, hp, e2⟩
    rw [e, led_row] at hp
    rw [hp] at e2
    simp [← e2]
  · intro hx
    simp only [List.mem_singleton] at hx
    exact ⟨(walkW l.V l.row, walkW l.W l.row), by rw [e, led_row], hx.symm⟩
theorem own_ok {a2 w a12 a13 a14 a15 a16 : Sl} {T : D} {s : List (Option Nat)} {C : Addr} (n2 : NoO a2) (nw : NoO w) (n12 : NoO a12) (n13 : NoO a13) (n14 : NoO a14) (n15 : NoO a15) (n16 : NoO a16) : ownLst (Sm ns T C l s a2 w a12 a13 a14 a15 a16) = true := by
  rcases n2 with rfl | ⟨_, rfl⟩ <;> rcases nw with rfl | ⟨_, rfl⟩ <;> rcases n12 with rfl | ⟨_, rfl⟩ <;> rcases n13 with rfl | ⟨_, rfl⟩ <;> rcases n14 with rfl | ⟨_, rfl⟩ <;> rcases n15 with rfl | ⟨_, rfl⟩ <;> rcases n16 with rfl | ⟨_, rfl⟩ <;> rfl
theorem in_nat {n : Nat} {q : List Nat} : inD (natD n) (q.map natD) = decide (n ∈ q) := by
  unfold inD
  induction q with
  | nil => rfl
  | cons a q ih =>
    show (eqV (.int (a : Int)) (.int (n : Int)) || inV _ _) = _
    rw [ih]
    have e : eqV (.int (a : Int)) (.int (n : Int)) = decide (n = a) := by
      unfold eqV
      by_cases z : n = a
      · subst z; simp
      · simp [z]; omega
    rw [e]
    simp
theorem rdIn_nat {n : Nat} {q : List Nat} {Q : D → Prop} (h : n ∈ q) (k : Q (.bl false)) : rdIn true (natD n) (psD q) Q := by
  refine ⟨rfl, ?_, ?_⟩
  · rw [List.all_map]; exact List.all_eq_true.mpr fun _ _ => rfl
  · show Q (.bl (!inD (natD n) (q.map natD)))
    rw [in_nat, decide_eq_true h]
    exact k
theorem noL_ps (l : List Nat) : noL (psD l) = true := by
  show noLs (l.map natD) = true
  induction l with
  | nil => rfl
  | cons a l ih => rw [List.map_cons]; exact ih
/-- between looks -/
def WK (ns : List Int) (T : D) (C : Addr) (l : Lp) (i : Nat) (ρ : Rho) : Prop := ∃ s q a2 a12 a13 a15 a16, ρ = Sm ns T C l s a2 (.sh (psD q)) a12 a13 (.sh (psD q)) a15 a16 ∧ LookI l s q ∧ unk s + i ≤ l.row.length ∧ NoO a2 ∧ NoO a12 ∧ NoO a13 ∧ NoO a15 ∧ NoO a16
theorem look_in {s : List (Option Nat)} {p k : Nat} {q q' : List Nat} (ok : l.Ok) (h : LookI l s q) (hp : s[p]? = some none) (hk : l.row[p]? = some k) (hq : SetIs q' (lkP l true (s.set p (some k)))) : LookI l (s.set p (some k)) q' ∧ ∀ x ∈ q', x ∈ q := by
  refine ⟨⟨h.pt.look hk, hq⟩, fun x hx => (h.lk.me x).mpr ?_⟩
  obtain ⟨y, hy, e⟩ := (hq.me x).mp hx
  exact ⟨y, led_look (ok.rk _ (mem_of hk)) hp (fun _ h => h) y hy, e⟩
theorem lk_len (ok : l.Ok) {m : Bool} {s : List (Option Nat)} {q : List Nat} (sh : Sh l.K s) (h : SetIs q (lkP l m s)) : q.length ≤ 4 :=
  nd_len (h.so.imp fun h => Nat.ne_of_lt h) fun x hx => by
    obtain ⟨p, hp, e⟩ := (h.me x).mp hx
    have := wo_le ok.okW (ledP_lt ok.okV ok.okW sh.kd p hp).2
    omega
theorem lap9b4 (ok : l.Ok) {i : Nat} {s' : List (Option Nat)} {q q' : List Nat} {a2 a12 a13 a15 a16 : Sl} (h : LookI l s' q') (sub : ∀ x ∈ q', x ∈ q) (le : unk s' + (i + 1) ≤ l.row.length) (hE : ∀ ρ, WK ns (tapeD P KV) G.C l (i + 1) ρ → E.nx ρ) (n2 : NoO a2) (n12 : NoO a12) (n13 : NoO a13) (n15 : NoO a15) (n16 : NoO a16) :
    law_1b9b4 G E (Sm ns (tapeD P KV) G.C l s' a2 (.sh (psD q')) a12 a13 (.sh (psD q)) a15 a16) := by
  simp only [law_1b9b4, law_1b9b5]
  simp only [rho0, List.map_cons, List.map_nil, List.length_cons, List.length_nil, List.cons_append, List.nil_append, List.replicate, Nat.sub_self, Nat.add_sub_cancel, dVar, dLook, dOp, dOpE, dMapB, dChain, dTst, dAnd, dOr, dNot, dAndV, dOrV, dNotV, dIf, dNil, dCons, bNil, bCons, dTup, dLst, dCB, dCall, sFor, dEnum, gTupD, gsCons, gsNil, gSet, dAct, dLc, dIlst, dItup, wipeR, dYes, dProp, dFld, dRng1, dIsC, Dc.rdAll, rdNe, rdEq, scalD, List.length_map, sFldD, dLst, dRng2, capS, lamL, rhoF, capSl, dDc, dDcN, sPutM, sPut, sdD, sdN, dDm, dMt, mdAppend, mdPop, dDk, sPar, sSeq, sIf, sRet, sSet, sExpr, sNext, sNever, vSh, vOw, dK1, dIsi, dIsi2, isD, rdI0, rdI, List.getElem?_cons_zero, List.getElem?_cons_succ, Nat.reduceAdd, Nat.reduceSub, List.set_cons_zero, List.set_cons_succ, Option.some.injEq, exists_eq_left', exists_eq_left, true_implies, false_implies, and_true, true_and, reduceCtorEq, Bool.not_true, Bool.not_false, Bool.false_eq_true, implies_true]
  refine ⟨okw1 (by simp), ?_, fun _ acc => acc = [], rfl, fun i x acc hx e => ?_, fun acc e => ?_⟩
  · have := lk_len ok (ok.sh h.pt) h.lk
    rw [sizeLine_eq]; omega
  · obtain ⟨n, hn, rfl⟩ := getMap hx
    subst e
    exact ⟨by decide, rdIn_nat (sub n (mem_of hn)) ⟨fun e => (nomatch e), fun _ => rfl⟩⟩
  · subst e
    exact ⟨Nat.zero_le _, ne_nils ⟨fun e => (nomatch e), fun _ => hE _ ⟨s', q', a2, a12, a13, a15, a16, rfl, h, le, n2, n12, n13, n15, n16⟩⟩⟩
theorem sdL_set {s : List (Option Nat)} {p k : Nat} {Q : D → Prop} (hp : p < s.length) (q : Q (shD (s.set p (some k)))) : sdL (shD s) (natD p) (natD k) Q := by
  refine ⟨p, ?_, ?_⟩
  · unfold ixN
    rw [if_pos (by omega), if_pos (by rw [List.length_map]; omega)]
    rfl
  · have e : (s.map itD).set p (natD k) = (s.set p (some k)).map itD := by rw [List.map_set]
    rw [e]
    exact q
theorem lap9b2 (h1 : G.S_leak = S_leak G.C) (ok : l.Ok) {i p k : Nat} {s : List (Option Nat)} {q : List Nat} {z : D} {a2 a12 a13 a15 : Sl} (h : LookI l s q) (hp : s[p]? = some none) (hk : l.row[p]? = some k) (le : unk s + i ≤ l.row.length) (hE : ∀ ρ, WK ns (tapeD P KV) G.C l (i + 1) ρ → E.nx ρ) (n2 : NoO a2) (n12 : NoO a12) (n13 : NoO a13) (n15 : NoO a15) :
    law_1b9b2 G E (Sm ns (tapeD P KV) G.C l s a2 (.sh (psD q)) a12 a13 (.sh (psD q)) a15 (.sh (.tup [natD p, z]))) := by
  simp only [law_1b9b2, law_1b9b3, h1]
  unfold dCallB
  simp only [rho0, List.map_cons, List.map_nil, List.length_cons, List.length_nil, List.cons_append, List.nil_append, List.replicate, Nat.sub_self, Nat.add_sub_cancel, dVar, dLook, dOp, dOpE, dMapB, dChain, dTst, dAnd, dOr, dNot, dAndV, dOrV, dNotV, dIf, dNil, dCons, bNil, bCons, dTup, dLst, dCB, dCall, sFor, dEnum, gTupD, gsCons, gsNil, gSet, dAct, dLc, dIlst, dItup, wipeR, dYes, dProp, dFld, dRng1, dIsC, Dc.rdAll, rdNe, rdEq, scalD, List.length_map, sFldD, dLst, dRng2, capS, lamL, rhoF, capSl, dDc, dDcN, sPutM, sPut, sdD, sdN, dDm, dMt, mdAppend, mdPop, dDk, sPar, sSeq, sIf, sRet, sSet, sExpr, sNext, sNever, vSh, vOw, dK1, dIsi, dIsi2, isD, rdI0, rdI, List.getElem?_cons_zero, List.getElem?_cons_succ, Nat.reduceAdd, Nat.reduceSub, List.set_cons_zero, List.set_cons_succ, Option.some.injEq, exists_eq_left', exists_eq_left, true_implies, false_implies, and_true, true_and, reduceCtorEq, Bool.not_true, Bool.not_false, Bool.false_eq_true, implies_true]
  refine ⟨natD p, rfl, ix_tup hk ⟨⟨_, rfl⟩, natD p, rfl, _, rfl, ?_⟩⟩
  have hps := (List.getElem?_eq_some_iff.mp hp).1
  refine sdL_set hps ⟨own_ok n2 (.inr ⟨_, rfl⟩) n12 n13 (.inr ⟨_, rfl⟩) n15 (.inr ⟨_, rfl⟩), l.V, l.W, l.K, true, s.set p (some k), ok.okV, ok.okW, (ok.sh h.pt).set (ok.rk _ (mem_of hk)), rfl, fun q' hq => ⟨noL_ps q', ?_⟩⟩
  obtain ⟨h2, sub⟩ := look_in ok h hp hk hq
  have eu := unk_set (k := k) hp
  have u0 := unk_pos hp
  exact lap9b4 G ok h2 sub (by omega) hE n2 n12 n13 n15 (.inr ⟨_, rfl⟩)
theorem lap9 (h1 : G.S__law_place = S__law_place) (h2 : G.S_leak = S_leak G.C) (h3 : G.S_most_telling = S_most_telling G.C) (ok : l.Ok) (hE : ∀ ρ, WL ns (tapeD P KV) ρ → E.nx ρ) {s : List (Option Nat)} {q : List Nat} {a2 a12 a13 a15 a16 : Sl} (h : LookI l s q) (n2 : NoO a2) (n12 : NoO a12) (n13 : NoO a13) (n15 : NoO a15) (n16 : NoO a16) :
    law_1b9 G E (Sm ns (tapeD P KV) G.C l s a2 (.sh (psD q)) a12 a13 (.sh (psD q)) a15 a16) := by
  simp only [law_1b9]
  simp only [rho0, List.map_cons, List.map_nil, List.length_cons, List.length_nil, List.cons_append, List.nil_append, List.replicate, Nat.sub_self, Nat.add_sub_cancel, dVar, dLook, dOp, dOpE, dMapB, dChain, dTst, dAnd, dOr, dNot, dAndV, dOrV, dNotV, dIf, dNil, dCons, bNil, bCons, dTup, dLst, dCB, dCall, sFor, dEnum, gTupD, gsCons, gsNil, gSet, dAct, dLc, dIlst, dItup, wipeR, dYes, dProp, dFld, dRng1, dIsC, Dc.rdAll, rdNe, rdEq, scalD, List.length_map, sFldD, dLst, dRng2, capS, lamL, rhoF, capSl, dDc, dDcN, sPutM, sPut, sdD, sdN, dDm, dMt, mdAppend, mdPop, dDk, sPar, sSeq, sIf, sRet, sSet, sExpr, sNext, sNever, vSh, vOw, dK1, dIsi, dIsi2, isD, rdI0, rdI, List.getElem?_cons_zero, List.getElem?_cons_succ, Nat.reduceAdd, Nat.reduceSub, List.set_cons_zero, List.set_cons_succ, Option.some.injEq, exists_eq_left', exists_eq_left, true_implies, false_implies, and_true, true_and, reduceCtorEq, Bool.not_true, Bool.not_false, Bool.false_eq_true, implies_true]
  refine len_t (n := l.row.length) (by rw [List.length_map]) ?_
  have r8 := ok.r8
  have e1 : ((l.row.length : Nat) : Int) + 1 = ((l.row.length + 1 : Nat) : Int) := by omega
  refine (show -(2 ^ 62) ≤ ((l.row.length : Nat) : Int) + 1 ∧ ((l.row.length : Nat) : Int) + 1 < 2 ^ 62 ∧ _ from ⟨by omega, by omega, ?_⟩)
  rw [e1]
  refine ⟨WK ns (tapeD P KV) G.C l, ⟨s, q, a2, a12, a13, a15, a16, rfl, h, by have := unk_le (s := s); rw [h.pt.1] at this; omega, n2, n12, n13, n15, n16⟩, fun i x ρ hx ⟨s, q, a2, a12, a13, a15, a16, e, h, le, n2, n12, n13, n15, n16⟩ => ?_, fun ρ ⟨s, q, a2, a12, a13, a15, a16, e, h, le, n2, n12, n13, n15, n16⟩ => ?_⟩
  · obtain ⟨hi, rfl⟩ := rng_at hx
    subst e
    simp only [law_1b9b0, law_1b9b1, h3]
    unfold dCallB
    simp only [rho0, List.map_cons, List.map_nil, List.length_cons, List.length_nil, List.cons_append, List.nil_append, List.replicate, Nat.sub_self, Nat.add_sub_cancel, dVar, dLook, dOp, dOpE, dMapB, dChain, dTst, dAnd, dOr, dNot, dAndV, dOrV, dNotV, dIf, dNil, dCons, bNil, bCons, dTup, dLst, dCB, dCall, sFor, dEnum, gTupD, gsCons, gsNil, gSet, dAct, dLc, dIlst, dItup, wipeR, dYes, dProp, dFld, dRng1, dIsC, Dc.rdAll, rdNe, rdEq, scalD, List.length_map, sFldD, dLst, dRng2, capS, lamL, rhoF, capSl, dDc, dDcN, sPutM, sPut, sdD, sdN, dDm, dMt, mdAppend, mdPop, dDk, sPar, sSeq, sIf, sRet, sSet, sExpr, sNext, sNever, vSh, vOw, dK1, dIsi, dIsi2, isD, rdI0, rdI, List.getElem?_cons_zero, List.getElem?_cons_succ, Nat.reduceAdd, Nat.reduceSub, List.set_cons_zero, List.set_cons_succ, Option.some.injEq, exists_eq_left', exists_eq_left, true_implies, false_implies, and_true, true_and, reduceCtorEq, Bool.not_true, Bool.not_false, Bool.false_eq_true, implies_true]
    refine ⟨by decide, own_ok n2 (.inr ⟨_, rfl⟩) n12 n13 (.inr ⟨_, rfl⟩) (.inr ⟨_, rfl⟩) n16, l.W, l.K, s, l.ws, ok.okW, ok.wt, ok.sh h.pt, rfl, fun u0 => ⟨rfl, fun _ => ?_, fun e => (nomatch e)⟩, fun p hp _ _ => ⟨rfl, fun e => (nomatch e), fun _ => ?_⟩⟩
    · unfold sBrk
      dsimp only
      rw [h.last u0]
      exact lap10 G h1 ok hE n2 (.inr ⟨_, rfl⟩) n12 n13 (.inr ⟨_, rfl⟩) (.inr ⟨_, rfl⟩)
    · have hpl : p < l.row.length := by rw [← h.pt.1]; exact (List.getElem?_eq_some_iff.mp hp).1
      exact lap9b2 G h2 ok h hp (List.getElem?_eq_getElem hpl) le (fun _ h => h) n2 n12 n13 (.inr ⟨_, rfl⟩)
  · subst e
    rw [rng_len] at le
    omega
/-! between the drawing and the looks -/
/-- one side of the pairs, once each, is the places of this side's watch -/
theorem side_eq {qs : List (Nat × Nat)} {ps : List Nat} {ns : List Int} {f : Nat × Nat → Nat} {φ : Nat × Nat → Prop} {ψ : Nat → Prop} (hq : PairsIs qs φ) (hp : SetIs ps ψ) (hf : ∀ p, ψ p ↔ ∃ q, φ q ∧ f q = p) (so : ns.Pairwise (· < ·)) (me : ∀ k : Int, k ∈ ns ↔ k ∈ qs.map fun q => ((f q : Nat) : Int)) : ns.map D.int = ps.map natD := by
  have e : ns = ps.map fun n : Nat => (n : Int) := by
    have hall : ∀ k ∈ ns, 0 ≤ k := fun k hk => by
      obtain ⟨q, _, e⟩ := List.mem_map.mp ((me k).mp hk)
      omega
    have e1 : (ns.map Int.toNat).map (fun n : Nat => (n : Int)) = ns := by
      rw [List.map_map]
      refine (List.map_congr_left fun k hk => ?_).trans (List.map_id ns)
      show ((k.toNat : Nat) : Int) = k
      have := hall k hk
      omega
    rw [← e1]
    congr 1
    refine sorted_eq ?_ hp.so fun x => ?_
    · rw [List.pairwise_map]
      refine List.Pairwise.imp_of_mem (fun {a b} ha hb h => ?_) so
      have := hall a ha
      omega
    · rw [hp.me x, hf x]
      constructor
      · intro hx
        obtain ⟨k, hk, e⟩ := List.mem_map.mp hx
        obtain ⟨q, hqm, e2⟩ := List.mem_map.mp ((me k).mp hk)
        exact ⟨q, (hq.me q).mp hqm, by omega⟩
      · rintro ⟨q, hqm, e⟩
        refine List.mem_map.mpr ⟨((f q : Nat) : Int), (me _).mpr (List.mem_map.mpr ⟨q, (hq.me q).mpr hqm, rfl⟩), by omega⟩
  rw [e, List.map_map]
  rfl
theorem noL_prs (l : List (Nat × Nat)) : noL (prsD l) = true := by
  show noLs (l.map prD) = true
  induction l with
  | nil => rfl
  | cons a l ih => rw [List.map_cons]; exact ih
theorem lap7b (h1 : G.S_both_lead = S_both_lead G.C) (h2 : G.S_can_lead = S_can_lead G.C) (ok : l.Ok) {m : Bool} {s : List (Option Nat)} (hs : Part l.row s) {w : D} {a2 a13 a14 a15 a16 : Sl} (n2 : NoO a2) (n13 : NoO a13) (n14 : NoO a14) (n15 : NoO a15) (n16 : NoO a16) (hE : ∀ d, E.nx (Sm ns (tapeD P KV) G.C l s a2 (.sh w) (.sh (modeD m)) (.sh d) a14 a15 a16)) :
    law_1b7b0 G E (Sm ns (tapeD P KV) G.C l s a2 (.sh w) (.sh (modeD m)) a13 a14 a15 a16) := by
  simp only [law_1b7b0, h1]
  unfold dCallB
  simp only [rho0, List.map_cons, List.map_nil, List.length_cons, List.length_nil, List.cons_append, List.nil_append, List.replicate, Nat.sub_self, Nat.add_sub_cancel, dVar, dLook, dOp, dOpE, dMapB, dChain, dTst, dAnd, dOr, dNot, dAndV, dOrV, dNotV, dIf, dNil, dCons, bNil, bCons, dTup, dLst, dCB, dCall, sFor, dEnum, gTupD, gsCons, gsNil, gSet, dAct, dLc, dIlst, dItup, wipeR, dYes, dProp, dFld, dRng1, dIsC, Dc.rdAll, rdNe, rdEq, scalD, List.length_map, sFldD, dLst, dRng2, capS, lamL, rhoF, capSl, dDc, dDcN, sPutM, sPut, sdD, sdN, dDm, dMt, mdAppend, mdPop, dDk, sPar, sSeq, sIf, sRet, sSet, sExpr, sNext, sNever, vSh, vOw, dK1, dIsi, dIsi2, isD, rdI0, rdI, List.getElem?_cons_zero, List.getElem?_cons_succ, Nat.reduceAdd, Nat.reduceSub, List.set_cons_zero, List.set_cons_succ, Option.some.injEq, exists_eq_left', exists_eq_left, true_implies, false_implies, and_true, true_and, reduceCtorEq, Bool.not_true, Bool.not_false, Bool.false_eq_true, implies_true]
  refine ⟨own_ok n2 (.inr ⟨_, rfl⟩) (.inr ⟨_, rfl⟩) n13 n14 n15 n16, l.V, l.W, l.K, m, s, ok.okV, ok.okW, ok.sh hs, rfl, fun qs hq => ?_⟩
  refine ⟨noL_prs qs, ?_⟩
  simp only [law_1b7b1, h2]
  unfold dSortedSet dCallB
  simp only [rho0, List.map_cons, List.map_nil, List.length_cons, List.length_nil, List.cons_append, List.nil_append, List.replicate, Nat.sub_self, Nat.add_sub_cancel, dVar, dLook, dOp, dOpE, dMapB, dChain, dTst, dAnd, dOr, dNot, dAndV, dOrV, dNotV, dIf, dNil, dCons, bNil, bCons, dTup, dLst, dCB, dCall, sFor, dEnum, gTupD, gsCons, gsNil, gSet, dAct, dLc, dIlst, dItup, wipeR, dYes, dProp, dFld, dRng1, dIsC, Dc.rdAll, rdNe, rdEq, scalD, List.length_map, sFldD, dLst, dRng2, capS, lamL, rhoF, capSl, dDc, dDcN, sPutM, sPut, sdD, sdN, dDm, dMt, mdAppend, mdPop, dDk, sPar, sSeq, sIf, sRet, sSet, sExpr, sNext, sNever, vSh, vOw, dK1, dIsi, dIsi2, isD, rdI0, rdI, List.getElem?_cons_zero, List.getElem?_cons_succ, Nat.reduceAdd, Nat.reduceSub, List.set_cons_zero, List.set_cons_succ, Option.some.injEq, exists_eq_left', exists_eq_left, true_implies, false_implies, and_true, true_and, reduceCtorEq, Bool.not_true, Bool.not_false, Bool.false_eq_true, implies_true]
  have own : ownLst (Sm ns (tapeD P KV) G.C l s a2 (.sh w) (.sh (modeD m)) (.sh (prsD qs)) a14 a15 a16) = true := own_ok n2 (.inr ⟨_, rfl⟩) (.inr ⟨_, rfl⟩) (.inr ⟨_, rfl⟩) n14 n15 n16
  have l36 := prs_len ok.okV ok.okW ⟨hq.nd, fun q hm => ledP_lt ok.okV ok.okW (ok.sh hs).kd q ((hq.me q).mp hm)⟩
  have sl : qs.length ≤ sizeLine := by rw [sizeLine_eq]; omega
  have w2 : OkW (Sm ns (tapeD P KV) G.C l s a2 (.sh w) (.sh (modeD m)) (.sh (prsD qs)) a14 a15 a16) [19, 20] := by
    intro j hj d
    simp only [List.mem_cons, List.not_mem_nil, or_false] at hj
    rcases hj with rfl | rfl <;> simp
  have step : ∀ (f : Nat × Nat → Nat) (i : Nat) (n : Nat × Nat), qs[i]? = some n → (qs.take i).map (fun q => natD (f q)) ++ [natD (f n)] = (qs.take (i + 1)).map fun q => natD (f q) := fun f i n h => by rw [takeS h, List.map_append]; rfl
  refine ⟨w2, sl, fun i acc => acc = (qs.take i).map fun q => natD q.1, rfl, fun i x acc hx e => ?_, fun acc e => ?_⟩
  · obtain ⟨n, hn, rfl⟩ := getMap hx
    subst e
    exact ⟨rfl, by decide, by decide, step Prod.fst i n hn⟩
  · subst e
    rw [List.take_length]
    refine ⟨qs.map fun q => ((q.1 : Nat) : Int), by rw [List.map_map]; rfl, by rw [List.length_map]; omega, fun ms so me => ?_⟩
    refine (show ownLst _ = true ∧ _ from ⟨own, l.V, l.K, m, s, ok.okV, ok.sh hs, rfl, fun ps hp => ⟨noL_ps ps, ?_⟩⟩)
    rw [side_eq (f := Prod.fst) hq hp led_fst so me]
    refine ne_ps rfl ⟨fun e => (nomatch e), fun _ => ?_⟩
    refine ⟨w2, sl, fun i acc => acc = (qs.take i).map fun q => natD q.2, rfl, fun i x acc hx e => ?_, fun acc e => ?_⟩
    · obtain ⟨n, hn, rfl⟩ := getMap hx
      subst e
      exact ⟨rfl, by decide, by decide, step Prod.snd i n hn⟩
    · subst e
      rw [List.take_length]
      refine ⟨qs.map fun q => ((q.2 : Nat) : Int), by rw [List.map_map]; rfl, by rw [List.length_map]; omega, fun ms so me => ?_⟩
      refine (show ownLst _ = true ∧ _ from ⟨own, l.W, l.K, m, s, ok.okW, (⟨(ok.sh hs).ln, (ok.sh hs).kd⟩ : Sh l.K s), rfl, fun ps hp => ⟨noL_ps ps, ?_⟩⟩)
      rw [side_eq (f := Prod.snd) hq hp led_snd so me]
      exact ne_ps rfl ⟨fun e => (nomatch e), fun _ => hE (prsD qs)⟩
structure Hs (G : Gc P KV) : Prop where
  p : G.S__law_place = S__law_place
  lk : G.S_leak = S_leak G.C
  mt : G.S_most_telling = S_most_telling G.C
  bl : G.S_both_lead = S_both_lead G.C
  cl : G.S_can_lead = S_can_lead G.C
  od : G.S_odds = S_odds G.C
  dr : G.S__law_draw = S__law_draw (tapeD P KV)
  rw : G.S__law_row = S__law_row (tapeD P KV)
  md : G.S__law_made = S__law_made G.C
  wt : G.S__law_weights = S__law_weights (tapeD P KV)
  wa : G.S__law_watch = S__law_watch (tapeD P KV)
  bg : G.S__law_begun = S__law_begun P KV
theorem lap8 (H : Hs G) (ok : l.Ok) (hE : ∀ ρ, WL ns (tapeD P KV) ρ → E.nx ρ) {s : List (Option Nat)} {q : List Nat} {a2 a12 a13 a14 a15 a16 : Sl} (h : LookI l s q) (n2 : NoO a2) (n12 : NoO a12) (n13 : NoO a13) (n15 : NoO a15) (n16 : NoO a16) :
    law_1b8 G E (Sm ns (tapeD P KV) G.C l s a2 (.sh (psD q)) a12 a13 a14 a15 a16) := by
  simp only [law_1b8]
  simp only [rho0, List.map_cons, List.map_nil, List.length_cons, List.length_nil, List.cons_append, List.nil_append, List.replicate, Nat.sub_self, Nat.add_sub_cancel, dVar, dLook, dOp, dOpE, dMapB, dChain, dTst, dAnd, dOr, dNot, dAndV, dOrV, dNotV, dIf, dNil, dCons, bNil, bCons, dTup, dLst, dCB, dCall, sFor, dEnum, gTupD, gsCons, gsNil, gSet, dAct, dLc, dIlst, dItup, wipeR, dYes, dProp, dFld, dRng1, dIsC, Dc.rdAll, rdNe, rdEq, scalD, List.length_map, sFldD, dLst, dRng2, capS, lamL, rhoF, capSl, dDc, dDcN, sPutM, sPut, sdD, sdN, dDm, dMt, mdAppend, mdPop, dDk, sPar, sSeq, sIf, sRet, sSet, sExpr, sNext, sNever, vSh, vOw, dK1, dIsi, dIsi2, isD, rdI0, rdI, List.getElem?_cons_zero, List.getElem?_cons_succ, Nat.reduceAdd, Nat.reduceSub, List.set_cons_zero, List.set_cons_succ, Option.some.injEq, exists_eq_left', exists_eq_left, true_implies, false_implies, and_true, true_and, reduceCtorEq, Bool.not_true, Bool.not_false, Bool.false_eq_true, implies_true]
  exact lap9 G H.p H.lk H.mt ok hE h n2 n12 n13 n15 n16
theorem modes_at {i : Nat} {x : D} (h : [D.str (Str.ofString "counted"), D.str (Str.ofString "lost")][i]? = some x) : ∃ m, x = modeD m := by
  rcases i with _ | _ | i
  · exact ⟨true, (Option.some.inj h).symm⟩
  · exact ⟨false, (Option.some.inj h).symm⟩
  · simp at h
theorem lap7 (H : Hs G) (ok : l.Ok) (hE : ∀ ρ, WL ns (tapeD P KV) ρ → E.nx ρ) {s : List (Option Nat)} {q : List Nat} {a2 a12 a13 a14 a15 a16 : Sl} (h : LookI l s q) (n2 : NoO a2) (n12 : NoO a12) (n13 : NoO a13) (n14 : NoO a14) (n15 : NoO a15) (n16 : NoO a16) :
    law_1b7 G E (Sm ns (tapeD P KV) G.C l s a2 (.sh (psD q)) a12 a13 a14 a15 a16) := by
  simp only [law_1b7]
  simp only [rho0, List.map_cons, List.map_nil, List.length_cons, List.length_nil, List.cons_append, List.nil_append, List.replicate, Nat.sub_self, Nat.add_sub_cancel, dVar, dLook, dOp, dOpE, dMapB, dChain, dTst, dAnd, dOr, dNot, dAndV, dOrV, dNotV, dIf, dNil, dCons, bNil, bCons, dTup, dLst, dCB, dCall, sFor, dEnum, gTupD, gsCons, gsNil, gSet, dAct, dLc, dIlst, dItup, wipeR, dYes, dProp, dFld, dRng1, dIsC, Dc.rdAll, rdNe, rdEq, scalD, List.length_map, sFldD, dLst, dRng2, capS, lamL, rhoF, capSl, dDc, dDcN, sPutM, sPut, sdD, sdN, dDm, dMt, mdAppend, mdPop, dDk, sPar, sSeq, sIf, sRet, sSet, sExpr, sNext, sNever, vSh, vOw, dK1, dIsi, dIsi2, isD, rdI0, rdI, List.getElem?_cons_zero, List.getElem?_cons_succ, Nat.reduceAdd, Nat.reduceSub, List.set_cons_zero, List.set_cons_succ, Option.some.injEq, exists_eq_left', exists_eq_left, true_implies, false_implies, and_true, true_and, reduceCtorEq, Bool.not_true, Bool.not_false, Bool.false_eq_true, implies_true]
  refine (show 2 ≤ sizeLine ∧ _ from ⟨by decide, fun _ ρ => ∃ a12 a13, ρ = Sm ns (tapeD P KV) G.C l s a2 (.sh (psD q)) a12 a13 a14 a15 a16 ∧ NoO a12 ∧ NoO a13, ⟨a12, a13, rfl, n12, n13⟩, fun i x ρ hx ⟨a12, a13, e, n12, n13⟩ => ?_, fun ρ ⟨a12, a13, e, n12, n13⟩ => ?_⟩)
  · obtain ⟨m, rfl⟩ := modes_at hx
    subst e
    simp only [rho0, List.map_cons, List.map_nil, List.length_cons, List.length_nil, List.cons_append, List.nil_append, List.replicate, Nat.sub_self, Nat.add_sub_cancel, dVar, dLook, dOp, dOpE, dMapB, dChain, dTst, dAnd, dOr, dNot, dAndV, dOrV, dNotV, dIf, dNil, dCons, bNil, bCons, dTup, dLst, dCB, dCall, sFor, dEnum, gTupD, gsCons, gsNil, gSet, dAct, dLc, dIlst, dItup, wipeR, dYes, dProp, dFld, dRng1, dIsC, Dc.rdAll, rdNe, rdEq, scalD, List.length_map, sFldD, dLst, dRng2, capS, lamL, rhoF, capSl, dDc, dDcN, sPutM, sPut, sdD, sdN, dDm, dMt, mdAppend, mdPop, dDk, sPar, sSeq, sIf, sRet, sSet, sExpr, sNext, sNever, vSh, vOw, dK1, dIsi, dIsi2, isD, rdI0, rdI, List.getElem?_cons_zero, List.getElem?_cons_succ, Nat.reduceAdd, Nat.reduceSub, List.set_cons_zero, List.set_cons_succ, Option.some.injEq, exists_eq_left', exists_eq_left, true_implies, false_implies, and_true, true_and, reduceCtorEq, Bool.not_true, Bool.not_false, Bool.false_eq_true, implies_true]
    exact ⟨by decide, lap7b G H.bl H.cl ok h.pt n2 n13 n14 n15 n16 fun d => ⟨_, _, rfl, .inr ⟨_, rfl⟩, .inr ⟨_, rfl⟩⟩⟩
  · subst e
    exact lap8 G H ok hE h n2 n12 n13 n15 n16
theorem lk_odds {s : List (Option Nat)} {q qs : List Nat} (h : SetIs q (lkP l true s)) (hq : SetIs qs (wdsP l.W l.K s)) : q = qs := sorted_eq h.so hq.so fun x => by
  rw [h.me x, hq.me x]
  unfold lkP wdsP
  constructor
  · rintro ⟨p, hp, e⟩
    exact ⟨p.2, (led_snd p.2).mpr ⟨p, hp, rfl⟩, e⟩
  · rintro ⟨p, hp, e⟩
    obtain ⟨q, hq, e2⟩ := (led_snd (V := l.V) p).mp hp
    exact ⟨q, hq, by rw [e2]; exact e⟩
theorem srt_tup {qs : List Nat} {acc : List D} {Q : D → Prop} (so : qs.Pairwise (· < ·)) (hl : qs.length ≤ sizeLine) (h : Q (psD qs)) : rdSrtD [.dk (qs.map kI) acc] fun z => Dc.rdTup [z] Q :=
  srt_end (φ := (· ∈ qs)) (so.imp fun h => Nat.ne_of_lt h) hl (fun _ => Iff.rfl) fun qs' h' => by
    rw [sorted_eq h'.so so fun x => h'.me x]
    exact h
theorem noL_odds {qs : List Nat} {f g : Nat → Nat} : noLs (qs.map fun x => .tup [natD (f x), natD (g x)]) = true := by
  induction qs with
  | nil => rfl
  | cons a l ih => rw [List.map_cons]; exact ih
theorem lap6 (H : Hs G) (ok : l.Ok) (hE : ∀ ρ, WL ns (tapeD P KV) ρ → E.nx ρ) {s : List (Option Nat)} {q : List Nat} {a2 a12 a13 a14 a15 a16 : Sl} (h : LookI l s q) (n2 : NoO a2) (n12 : NoO a12) (n13 : NoO a13) (n14 : NoO a14) (n15 : NoO a15) (n16 : NoO a16) :
    law_1b6 G E (Sm ns (tapeD P KV) G.C l s a2 (.sh (psD q)) a12 a13 a14 a15 a16) := by
  simp only [law_1b6, H.od, H.lk]
  unfold dCallB
  simp only [rho0, List.map_cons, List.map_nil, List.length_cons, List.length_nil, List.cons_append, List.nil_append, List.replicate, Nat.sub_self, Nat.add_sub_cancel, dVar, dLook, dOp, dOpE, dMapB, dChain, dTst, dAnd, dOr, dNot, dAndV, dOrV, dNotV, dIf, dNil, dCons, bNil, bCons, dTup, dLst, dCB, dCall, sFor, dEnum, gTupD, gsCons, gsNil, gSet, dAct, dLc, dIlst, dItup, wipeR, dYes, dProp, dFld, dRng1, dIsC, Dc.rdAll, rdNe, rdEq, scalD, List.length_map, sFldD, dLst, dRng2, capS, lamL, rhoF, capSl, dDc, dDcN, sPutM, sPut, sdD, sdN, dDm, dMt, mdAppend, mdPop, dDk, sPar, sSeq, sIf, sRet, sSet, sExpr, sNext, sNever, vSh, vOw, dK1, dIsi, dIsi2, isD, rdI0, rdI, List.getElem?_cons_zero, List.getElem?_cons_succ, Nat.reduceAdd, Nat.reduceSub, List.set_cons_zero, List.set_cons_succ, Option.some.injEq, exists_eq_left', exists_eq_left, true_implies, false_implies, and_true, true_and, reduceCtorEq, Bool.not_true, Bool.not_false, Bool.false_eq_true, implies_true]
  have own : ownLst (Sm ns (tapeD P KV) G.C l s a2 (.sh (psD q)) a12 a13 a14 a15 a16) = true := own_ok n2 (.inr ⟨_, rfl⟩) n12 n13 n14 n15 n16
  have l4 := lk_len ok (ok.sh h.pt) h.lk
  refine ⟨own, l.W, l.K, s, l.ws, ok.okW, ok.wt, ok.sh h.pt, rfl, fun qs hqs => ⟨noL_odds, ?_⟩⟩
  have eq := lk_odds h.lk hqs
  subst eq
  refine srt_tup hqs.so (by rw [sizeLine_eq]; omega) (ne_ps rfl ⟨fun e => (nomatch e), fun _ => ?_⟩)
  have own2 : ∀ x : D, ownLst ((Sm ns (tapeD P KV) G.C l s a2 (.sh (psD q)) a12 a13 a14 a15 a16).set 18 (.sh x)) = true := fun x => by
    rcases n2 with rfl | ⟨_, rfl⟩ <;> rcases n12 with rfl | ⟨_, rfl⟩ <;> rcases n13 with rfl | ⟨_, rfl⟩ <;> rcases n14 with rfl | ⟨_, rfl⟩ <;> rcases n15 with rfl | ⟨_, rfl⟩ <;> rcases n16 with rfl | ⟨_, rfl⟩ <;> rfl
  refine ⟨okw1 (by simp), by rw [sizeLine_eq]; omega, fun _ acc => acc = [], rfl, fun i x acc hx e => ?_, fun acc e => ?_⟩
  · obtain ⟨n, hn, rfl⟩ := getMap hx
    subst e
    refine ⟨by decide, own2 _, l.V, l.W, l.K, false, s, ok.okV, ok.okW, ok.sh h.pt, rfl, fun q2 hq2 => ⟨noL_ps q2, rdIn_nat ((hq2.me n).mpr ?_) ⟨fun e => (nomatch e), fun _ => rfl⟩⟩⟩
    obtain ⟨p, hp, e⟩ := (h.lk.me n).mp (mem_of hn)
    exact ⟨p, led_lost p hp, e⟩
  · subst e
    exact ⟨by decide, ne_nils ⟨fun e => (nomatch e), fun _ => lap7 G H ok hE h n2 n12 n13 n14 n15 n16⟩⟩
theorem lap5 (H : Hs G) (ok : l.Ok) (hE : ∀ ρ, WL ns (tapeD P KV) ρ → E.nx ρ) {s : List (Option Nat)} {a2 a11 a12 a13 a14 a15 a16 : Sl} (h : Part l.row s) (n2 : NoO a2) (n11 : NoO a11) (n12 : NoO a12) (n13 : NoO a13) (n14 : NoO a14) (n15 : NoO a15) (n16 : NoO a16) :
    law_1b5 G E (Sm ns (tapeD P KV) G.C l s a2 a11 a12 a13 a14 a15 a16) := by
  simp only [law_1b5, H.lk]
  unfold dCallB
  simp only [rho0, List.map_cons, List.map_nil, List.length_cons, List.length_nil, List.cons_append, List.nil_append, List.replicate, Nat.sub_self, Nat.add_sub_cancel, dVar, dLook, dOp, dOpE, dMapB, dChain, dTst, dAnd, dOr, dNot, dAndV, dOrV, dNotV, dIf, dNil, dCons, bNil, bCons, dTup, dLst, dCB, dCall, sFor, dEnum, gTupD, gsCons, gsNil, gSet, dAct, dLc, dIlst, dItup, wipeR, dYes, dProp, dFld, dRng1, dIsC, Dc.rdAll, rdNe, rdEq, scalD, List.length_map, sFldD, dLst, dRng2, capS, lamL, rhoF, capSl, dDc, dDcN, sPutM, sPut, sdD, sdN, dDm, dMt, mdAppend, mdPop, dDk, sPar, sSeq, sIf, sRet, sSet, sExpr, sNext, sNever, vSh, vOw, dK1, dIsi, dIsi2, isD, rdI0, rdI, List.getElem?_cons_zero, List.getElem?_cons_succ, Nat.reduceAdd, Nat.reduceSub, List.set_cons_zero, List.set_cons_succ, Option.some.injEq, exists_eq_left', exists_eq_left, true_implies, false_implies, and_true, true_and, reduceCtorEq, Bool.not_true, Bool.not_false, Bool.false_eq_true, implies_true]
  exact ⟨own_ok n2 n11 n12 n13 n14 n15 n16, l.V, l.W, l.K, true, s, ok.okV, ok.okW, ok.sh h, rfl, fun q hq => ⟨noL_ps q, lap6 G H ok hE ⟨h, hq⟩ n2 n12 n13 n14 n15 n16⟩⟩
theorem Part.snoc {row : List Nat} {s : List (Option Nat)} (h : Part row s) {it : Option Nat} {n : Nat} (e : it = none ∨ it = some n) : Part (row ++ [n]) (s ++ [it]) := by
  refine ⟨by rw [List.length_append, List.length_append, h.1]; rfl, fun i => ?_⟩
  rcases Nat.lt_trichotomy i s.length with z | z | z
  · rw [List.getElem?_append_left z, List.getElem?_append_left (by rw [← h.1]; exact z)]
    exact h.2 i
  · subst z
    have e1 : (s ++ [it])[s.length]? = some it := by simp
    have e2 : (row ++ [n])[s.length]? = some n := by rw [h.1]; simp
    rw [e1, e2]
    rcases e with rfl | rfl
    · exact .inl rfl
    · exact .inr rfl
  · right
    rw [List.getElem?_eq_none (by rw [List.length_append, List.length_singleton]; omega), List.getElem?_eq_none (by rw [List.length_append, List.length_singleton, ← h.1]; omega)]
    rfl
theorem lap4 (H : Hs G) (ok : l.Ok) (hE : ∀ ρ, WL ns (tapeD P KV) ρ → E.nx ρ) {a2 a10 a11 a12 a13 a14 a15 a16 : Sl} (n2 : NoO a2) (n11 : NoO a11) (n12 : NoO a12) (n13 : NoO a13) (n14 : NoO a14) (n15 : NoO a15) (n16 : NoO a16) :
    law_1b4 G E (St ns (tapeD P KV) a2 (.sh (natD l.K)) (.sh (twD l.V)) (.sh (twD l.W)) (.sh (wD G.C l.V)) (.sh (wD G.C l.W)) (.sh (lsD l.ws)) (.sh (psD l.row)) a10 a11 a12 a13 a14 a15 a16) := by
  simp only [law_1b4, H.dr]
  simp only [rho0, List.map_cons, List.map_nil, List.length_cons, List.length_nil, List.cons_append, List.nil_append, List.replicate, Nat.sub_self, Nat.add_sub_cancel, dVar, dLook, dOp, dOpE, dMapB, dChain, dTst, dAnd, dOr, dNot, dAndV, dOrV, dNotV, dIf, dNil, dCons, bNil, bCons, dTup, dLst, dCB, dCall, sFor, dEnum, gTupD, gsCons, gsNil, gSet, dAct, dLc, dIlst, dItup, wipeR, dYes, dProp, dFld, dRng1, dIsC, Dc.rdAll, rdNe, rdEq, scalD, List.length_map, sFldD, dLst, dRng2, capS, lamL, rhoF, capSl, dDc, dDcN, sPutM, sPut, sdD, sdN, dDm, dMt, mdAppend, mdPop, dDk, sPar, sSeq, sIf, sRet, sSet, sExpr, sNext, sNever, vSh, vOw, dK1, dIsi, dIsi2, isD, rdI0, rdI, List.getElem?_cons_zero, List.getElem?_cons_succ, Nat.reduceAdd, Nat.reduceSub, List.set_cons_zero, List.set_cons_succ, Option.some.injEq, exists_eq_left', exists_eq_left, true_implies, false_implies, and_true, true_and, reduceCtorEq, Bool.not_true, Bool.not_false, Bool.false_eq_true, implies_true]
  have r8 := ok.r8
  refine ⟨okw1 (by simp), by rw [sizeLine_eq]; omega, fun i acc => ∃ s : List (Option Nat), acc = s.map itD ∧ Part (l.row.take i) s, ⟨[], rfl, rfl, fun i => .inr rfl⟩, fun i x acc hx ⟨s, e, hs⟩ => ?_, fun acc ⟨s, e, hs⟩ => ?_⟩
  · obtain ⟨n, hn, rfl⟩ := getMap hx
    subst e
    refine ⟨by decide, 2, rfl, by decide, by decide, fun r hr => ?_⟩
    refine (show (decide (((r : Nat) : Int) = 0) = true → _) ∧ (decide (((r : Nat) : Int) = 0) = false → _) from ⟨fun _ => ?_, fun _ => ?_⟩)
    · exact ⟨s ++ [none], by rw [List.map_append]; rfl, by rw [takeS hn]; exact hs.snoc (.inl rfl)⟩
    · exact ⟨s ++ [some n], by rw [List.map_append]; rfl, by rw [takeS hn]; exact hs.snoc (.inr rfl)⟩
  · subst e
    rw [List.take_length] at hs
    exact lap5 G H ok hE hs n2 n11 n12 n13 n14 n15 n16
theorem lap1 (H : Hs G) (hE : ∀ ρ, WL ns (tapeD P KV) ρ → E.nx ρ) {K : Nat} (k2 : 2 ≤ K) (k4 : K ≤ 3) {a2 a4 a5 a6 a7 a8 a9 a10 a11 a12 a13 a14 a15 a16 : Sl} (n2 : NoO a2) (n11 : NoO a11) (n12 : NoO a12) (n13 : NoO a13) (n14 : NoO a14) (n15 : NoO a15) (n16 : NoO a16) :
    law_1b1 G E (St ns (tapeD P KV) a2 (.sh (natD K)) a4 a5 a6 a7 a8 a9 a10 a11 a12 a13 a14 a15 a16) := by
  simp only [law_1b1, law_1b2, law_1b3, H.wa, H.md, H.wt, H.rw]
  unfold sAsg
  simp only [rho0, List.map_cons, List.map_nil, List.length_cons, List.length_nil, List.cons_append, List.nil_append, List.replicate, Nat.sub_self, Nat.add_sub_cancel, dVar, dLook, dOp, dOpE, dMapB, dChain, dTst, dAnd, dOr, dNot, dAndV, dOrV, dNotV, dIf, dNil, dCons, bNil, bCons, dTup, dLst, dCB, dCall, sFor, dEnum, gTupD, gsCons, gsNil, gSet, dAct, dLc, dIlst, dItup, wipeR, dYes, dProp, dFld, dRng1, dIsC, Dc.rdAll, rdNe, rdEq, scalD, List.length_map, sFldD, dLst, dRng2, capS, lamL, rhoF, capSl, dDc, dDcN, sPutM, sPut, sdD, sdN, dDm, dMt, mdAppend, mdPop, dDk, sPar, sSeq, sIf, sRet, sSet, sExpr, sNext, sNever, vSh, vOw, dK1, dIsi, dIsi2, isD, rdI0, rdI, List.getElem?_cons_zero, List.getElem?_cons_succ, Nat.reduceAdd, Nat.reduceSub, List.set_cons_zero, List.set_cons_succ, Option.some.injEq, exists_eq_left', exists_eq_left, true_implies, false_implies, and_true, true_and, reduceCtorEq, Bool.not_true, Bool.not_false, Bool.false_eq_true, implies_true]
  refine ⟨4, K, 2, rfl, by decide, by decide, by omega, by omega, by decide, by decide, fun V okV _ _ => ?_⟩
  refine ⟨4, K, 3, rfl, by decide, by decide, by omega, by omega, by decide, by decide, fun W okW _ _ => ?_⟩
  refine ⟨V, K, okV, rfl, W, K, okW, rfl, K, by omega, rfl, fun ws wl wb => ?_⟩
  refine ⟨by decide, by decide, by decide, by decide, V, K, 8, okV, by decide, rfl, fun row r8 rk => ?_⟩
  exact lap4 G (l := ⟨K, V, W, ws, row⟩) H ⟨okV, okW, ⟨wl, fun x hx => ⟨(wb x hx).1, Nat.le_trans (wb x hx).2 (by decide)⟩⟩, rk, r8⟩ hE n2 n11 n12 n13 n14 n15 n16
theorem lap0 (H : Hs G) (hE : ∀ ρ, WL ns (tapeD P KV) ρ → E.nx ρ) {ρ : Rho} (h : WL ns (tapeD P KV) ρ) (d : D) : law_1b0 G E (ρ.set 2 (.sh d)) := by
  obtain ⟨a2, a3, a4, a5, a6, a7, a8, a9, a10, a11, a12, a13, a14, a15, a16, rfl, ⟨n2, n3, n4, n5, n6, n7, n8, n9⟩, n10, n11, n12, n13, n14, n15, n16⟩ := h
  simp only [law_1b0, H.dr]
  simp only [rho0, List.map_cons, List.map_nil, List.length_cons, List.length_nil, List.cons_append, List.nil_append, List.replicate, Nat.sub_self, Nat.add_sub_cancel, dVar, dLook, dOp, dOpE, dMapB, dChain, dTst, dAnd, dOr, dNot, dAndV, dOrV, dNotV, dIf, dNil, dCons, bNil, bCons, dTup, dLst, dCB, dCall, sFor, dEnum, gTupD, gsCons, gsNil, gSet, dAct, dLc, dIlst, dItup, wipeR, dYes, dProp, dFld, dRng1, dIsC, Dc.rdAll, rdNe, rdEq, scalD, List.length_map, sFldD, dLst, dRng2, capS, lamL, rhoF, capSl, dDc, dDcN, sPutM, sPut, sdD, sdN, dDm, dMt, mdAppend, mdPop, dDk, sPar, sSeq, sIf, sRet, sSet, sExpr, sNext, sNever, vSh, vOw, dK1, dIsi, dIsi2, isD, rdI0, rdI, List.getElem?_cons_zero, List.getElem?_cons_succ, Nat.reduceAdd, Nat.reduceSub, List.set_cons_zero, List.set_cons_succ, Option.some.injEq, exists_eq_left', exists_eq_left, true_implies, false_implies, and_true, true_and, reduceCtorEq, Bool.not_true, Bool.not_false, Bool.false_eq_true, implies_true]
  refine ⟨2, rfl, by decide, by decide, fun r hr => ?_⟩
  have e : (2 : Int) + ((r : Nat) : Int) = ((2 + r : Nat) : Int) := by omega
  show law_1b1 G E (St ns (tapeD P KV) (.sh d) (.sh (.int ((2 : Int) + ((r : Nat) : Int)))) a4 a5 a6 a7 a8 a9 a10 a11 a12 a13 a14 a15 a16)
  rw [e]
  exact lap1 G H hE (by omega) (by omega) (.inr ⟨_, rfl⟩) n11 n12 n13 n14 n15 n16
def S_law : SD := fun ds Q => ∃ ns : List Int, ds = [.lst (ns.map D.int)] ∧ ns.length ≤ 63 ∧ Q (.bl true)
theorem rd_law (H : Hs G) : Rd S_law (d_law G) N_law.length := by
  rintro _ Q ⟨ns, rfl, hl, h⟩
  rw [law_parts]
  simp only [law_0, law_1, law_2, N_law, H.bg]
  simp only [rho0, List.map_cons, List.map_nil, List.length_cons, List.length_nil, List.cons_append, List.nil_append, List.replicate, Nat.sub_self, Nat.add_sub_cancel, dVar, dLook, dOp, dOpE, dMapB, dChain, dTst, dAnd, dOr, dNot, dAndV, dOrV, dNotV, dIf, dNil, dCons, bNil, bCons, dTup, dLst, dCB, dCall, sFor, dEnum, gTupD, gsCons, gsNil, gSet, dAct, dLc, dIlst, dItup, wipeR, dYes, dProp, dFld, dRng1, dIsC, Dc.rdAll, rdNe, rdEq, scalD, List.length_map, sFldD, dLst, dRng2, capS, lamL, rhoF, capSl, dDc, dDcN, sPutM, sPut, sdD, sdN, dDm, dMt, mdAppend, mdPop, dDk, sPar, sSeq, sIf, sRet, sSet, sExpr, sNext, sNever, vSh, vOw, dK1, dIsi, dIsi2, isD, rdI0, rdI, List.getElem?_cons_zero, List.getElem?_cons_succ, Nat.reduceAdd, Nat.reduceSub, List.set_cons_zero, List.set_cons_succ, Option.some.injEq, exists_eq_left', exists_eq_left, true_implies, false_implies, and_true, true_and, reduceCtorEq, Bool.not_true, Bool.not_false, Bool.false_eq_true, implies_true]
  refine ⟨ns, rfl, by omega, ?_⟩
  refine len_l (n := ns.length) (by rw [List.length_map]) ?_
  have hj : (0 : Int) ≤ 4 + (if (8 : Int) < ((ns.length : Nat) : Int) then 8 else ((ns.length : Nat) : Int)) ∧ (4 : Int) + (if (8 : Int) < ((ns.length : Nat) : Int) then 8 else ((ns.length : Nat) : Int)) ≤ 12 := by split <;> omega
  refine (show -(2 ^ 62) ≤ (4 : Int) + (if (8 : Int) < ((ns.length : Nat) : Int) then 8 else ((ns.length : Nat) : Int)) ∧ (4 : Int) + (if (8 : Int) < ((ns.length : Nat) : Int) then 8 else ((ns.length : Nat) : Int)) < 2 ^ 62 ∧ _ from ⟨by omega, by omega, fun _ ρ => WL ns (tapeD P KV) ρ, ?_, fun i x ρ hx hw => ⟨?_, ?_⟩, fun _ _ => h⟩)
  · exact ⟨_, _, _, _, _, _, _, _, _, _, _, _, _, _, _, rfl, ⟨.inl rfl, .inl rfl, .inl rfl, .inl rfl, .inl rfl, .inl rfl, .inl rfl, .inl rfl⟩, .inl (.inl rfl), .inl rfl, .inl rfl, .inl rfl, .inl rfl, .inl rfl, .inl rfl⟩
  · obtain ⟨_, _, _, _, _, _, _, _, _, _, _, _, _, _, _, rfl, _⟩ := hw
    exact (show 2 < 21 by decide)
  · exact lap0 G H (fun _ h => h) hw x
end
end K33

namespace K33
open PySem PySem.Spec PyProof.Rows L2 Dc
/-! the defs as data, the facts asked (printed by asm33.py) -/
def a_is_number : He5.DefA := ⟨fun K => He.fAd K ("is_number", none), "is_number", "is_number", defArgs s_is_number, defBody s_is_number, defScope s_is_number, [], []⟩
def a_is_between : He5.DefA := ⟨fun K => He.fAd K ("is_between", none), "is_between", "is_between", defArgs s_is_between, defBody s_is_between, defScope s_is_between, [], []⟩
def a_is_list : He5.DefA := ⟨fun K => He.fAd K ("is_list", none), "is_list", "is_list", defArgs s_is_list, defBody s_is_list, defScope s_is_list, [], []⟩
def a_mode_right : He5.DefA := ⟨fun K => He.fAd K ("mode_right", none), "mode_right", "mode_right", defArgs s_mode_right, defBody s_mode_right, defScope s_mode_right, [], []⟩
def a_need_mode : He5.DefA := ⟨fun K => He.fAd K ("need_mode", none), "need_mode", "need_mode", defArgs s_need_mode, defBody s_need_mode, defScope s_need_mode, [], []⟩
def a_first_wrong : He5.DefA := ⟨fun K => He.fAd K ("first_wrong", none), "first_wrong", "first_wrong", defArgs s_first_wrong, defBody s_first_wrong, defScope s_first_wrong, [], []⟩
def a_is_word : He5.DefA := ⟨fun K => He.fAd K ("is_word", none), "is_word", "is_word", defArgs s_is_word, defBody s_is_word, defScope s_is_word, [], []⟩
def a_is_line : He5.DefA := ⟨fun K => He.fAd K ("is_line", none), "is_line", "is_line", defArgs s_is_line, defBody s_is_line, defScope s_is_line, [], []⟩
def a_need_moves : He5.DefA := ⟨fun K => He.fAd K ("need_moves", none), "need_moves", "need_moves", defArgs s_need_moves, defBody s_need_moves, defScope s_need_moves, [], []⟩
def a_need_words : He5.DefA := ⟨fun K => He.fAd K ("need_words", none), "need_words", "need_words", defArgs s_need_words, defBody s_need_words, defScope s_need_words, [], []⟩
def a_init : He5.DefA := ⟨fun K => He.fAd K ("Watch", some "__init__"), "__init__", "Watch.__init__", defArgs s_init, defBody s_init, defScope s_init, [], []⟩
def a_moves : He5.DefA := ⟨pgt "Watch" "moves", "moves", "Watch.moves", defArgs s_moves, defBody s_moves, defScope s_moves, [], []⟩
def a_words : He5.DefA := ⟨pgt "Watch" "words", "words", "Watch.words", defArgs s_words, defBody s_words, defScope s_words, [], []⟩
def a_kinds : He5.DefA := ⟨pgt "Watch" "kinds", "kinds", "Watch.kinds", defArgs s_kinds, defBody s_kinds, defScope s_kinds, [], []⟩
def a_need_watch : He5.DefA := ⟨fun K => He.fAd K ("need_watch", none), "need_watch", "need_watch", defArgs s_need_watch, defBody s_need_watch, defScope s_need_watch, [.non], []⟩
def a_need_shown : He5.DefA := ⟨fun K => He.fAd K ("need_shown", none), "need_shown", "need_shown", defArgs s_need_shown, defBody s_need_shown, defScope s_need_shown, [], []⟩
def a_known_by : He5.DefA := ⟨fun K => He.fAd K ("known_by", none), "known_by", "known_by", defArgs s_known_by, defBody s_known_by, defScope s_known_by, [], []⟩
def a_next_by : He5.DefA := ⟨fun K => He.fAd K ("next_by", none), "next_by", "next_by", defArgs s_next_by, defBody s_next_by, defScope s_next_by, [], []⟩
def a_reached_by : He5.DefA := ⟨fun K => He.fAd K ("reached_by", none), "reached_by", "reached_by", defArgs s_reached_by, defBody s_reached_by, defScope s_reached_by, [], []⟩
def a_unknown_by : He5.DefA := ⟨fun K => He.fAd K ("unknown_by", none), "unknown_by", "unknown_by", defArgs s_unknown_by, defBody s_unknown_by, defScope s_unknown_by, [], []⟩
def a_behind_by : He5.DefA := ⟨fun K => He.fAd K ("behind_by", none), "behind_by", "behind_by", defArgs s_behind_by, defBody s_behind_by, defScope s_behind_by, [], []⟩
def a_led_by : He5.DefA := ⟨fun K => He.fAd K ("led_by", none), "led_by", "led_by", defArgs s_led_by, defBody s_led_by, defScope s_led_by, [], []⟩
def a_can_lead : He5.DefA := ⟨fun K => He.fAd K ("can_lead", none), "can_lead", "can_lead", defArgs s_can_lead, defBody s_can_lead, defScope s_can_lead, [], []⟩
def a_pair_behind : He5.DefA := ⟨fun K => He.fAd K ("pair_behind", none), "pair_behind", "pair_behind", defArgs s_pair_behind, defBody s_pair_behind, defScope s_pair_behind, [], []⟩
def a_pairs_known : He5.DefA := ⟨fun K => He.fAd K ("pairs_known", none), "pairs_known", "pairs_known", defArgs s_pairs_known, defBody s_pairs_known, defScope s_pairs_known, [], []⟩
def a_pairs_next : He5.DefA := ⟨fun K => He.fAd K ("pairs_next", none), "pairs_next", "pairs_next", defArgs s_pairs_next, defBody s_pairs_next, defScope s_pairs_next, [], []⟩
def a_pairs_reached : He5.DefA := ⟨fun K => He.fAd K ("pairs_reached", none), "pairs_reached", "pairs_reached", defArgs s_pairs_reached, defBody s_pairs_reached, defScope s_pairs_reached, [], []⟩
def a_both_behind : He5.DefA := ⟨fun K => He.fAd K ("both_behind", none), "both_behind", "both_behind", defArgs s_both_behind, defBody s_both_behind, defScope s_both_behind, [], []⟩
def a_need_told : He5.DefA := ⟨fun K => He.fAd K ("need_told", none), "need_told", "need_told", defArgs s_need_told, defBody s_need_told, defScope s_need_told, [], []⟩
def a_both_by : He5.DefA := ⟨fun K => He.fAd K ("both_by", none), "both_by", "both_by", defArgs s_both_by, defBody s_both_by, defScope s_both_by, [], []⟩
def a_words_kept : He5.DefA := ⟨fun K => He.fAd K ("words_kept", none), "words_kept", "words_kept", defArgs s_words_kept, defBody s_words_kept, defScope s_words_kept, [], []⟩
def a_leak_by : He5.DefA := ⟨fun K => He.fAd K ("leak_by", none), "leak_by", "leak_by", defArgs s_leak_by, defBody s_leak_by, defScope s_leak_by, [], []⟩
def a_need_told_shown : He5.DefA := ⟨fun K => He.fAd K ("need_told_shown", none), "need_told_shown", "need_told_shown", defArgs s_need_told_shown, defBody s_need_told_shown, defScope s_need_told_shown, [], []⟩
def a_both_lead : He5.DefA := ⟨fun K => He.fAd K ("both_lead", none), "both_lead", "both_lead", defArgs s_both_lead, defBody s_both_lead, defScope s_both_lead, [], []⟩
def a_leak : He5.DefA := ⟨fun K => He.fAd K ("leak", none), "leak", "leak", defArgs s_leak, defBody s_leak, defScope s_leak, [], []⟩
def a_need_weights : He5.DefA := ⟨fun K => He.fAd K ("need_weights", none), "need_weights", "need_weights", defArgs s_need_weights, defBody s_need_weights, defScope s_need_weights, [], []⟩
def a_divisor : He5.DefA := ⟨fun K => He.fAd K ("divisor", none), "divisor", "divisor", defArgs s_divisor, defBody s_divisor, defScope s_divisor, [], []⟩
def a_power : He5.DefA := ⟨fun K => He.fAd K ("power", none), "power", "power", defArgs s_power, defBody s_power, defScope s_power, [], []⟩
def a_fraction_of : He5.DefA := ⟨fun K => He.fAd K ("fraction_of", none), "fraction_of", "fraction_of", defArgs s_fraction_of, defBody s_fraction_of, defScope s_fraction_of, [], []⟩
def a_heavier_by : He5.DefA := ⟨fun K => He.fAd K ("heavier_by", none), "heavier_by", "heavier_by", defArgs s_heavier_by, defBody s_heavier_by, defScope s_heavier_by, [], []⟩
def a_numbers_by : He5.DefA := ⟨fun K => He.fAd K ("numbers_by", none), "numbers_by", "numbers_by", defArgs s_numbers_by, defBody s_numbers_by, defScope s_numbers_by, [], []⟩
def a_words_by : He5.DefA := ⟨fun K => He.fAd K ("words_by", none), "words_by", "words_by", defArgs s_words_by, defBody s_words_by, defScope s_words_by, [], []⟩
def a_odds_by : He5.DefA := ⟨fun K => He.fAd K ("odds_by", none), "odds_by", "odds_by", defArgs s_odds_by, defBody s_odds_by, defScope s_odds_by, [], []⟩
def a_need_odds : He5.DefA := ⟨fun K => He.fAd K ("need_odds", none), "need_odds", "need_odds", defArgs s_need_odds, defBody s_need_odds, defScope s_need_odds, [], []⟩
def a_odds : He5.DefA := ⟨fun K => He.fAd K ("odds", none), "odds", "odds", defArgs s_odds, defBody s_odds, defScope s_odds, [], []⟩
def a_greatest_of : He5.DefA := ⟨fun K => He.fAd K ("greatest_of", none), "greatest_of", "greatest_of", defArgs s_greatest_of, defBody s_greatest_of, defScope s_greatest_of, [], []⟩
def a_with_item : He5.DefA := ⟨fun K => He.fAd K ("with_item", none), "with_item", "with_item", defArgs s_with_item, defBody s_with_item, defScope s_with_item, [], []⟩
def a_guessed_by : He5.DefA := ⟨fun K => He.fAd K ("guessed_by", none), "guessed_by", "guessed_by", defArgs s_guessed_by, defBody s_guessed_by, defScope s_guessed_by, [], []⟩
def a_is_above : He5.DefA := ⟨fun K => He.fAd K ("is_above", none), "is_above", "is_above", defArgs s_is_above, defBody s_is_above, defScope s_is_above, [], []⟩
def a_most_telling : He5.DefA := ⟨fun K => He.fAd K ("most_telling", none), "most_telling", "most_telling", defArgs s_most_telling, defBody s_most_telling, defScope s_most_telling, [], []⟩
def a__law_begun : He5.DefA := ⟨fun K => He.fAd K ("_law_begun", none), "_law_begun", "_law_begun", defArgs s__law_begun, defBody s__law_begun, defScope s__law_begun, [], []⟩
def a__law_blend : He5.DefA := ⟨fun K => He.fAd K ("_law_blend", none), "_law_blend", "_law_blend", defArgs s__law_blend, defBody s__law_blend, defScope s__law_blend, [], []⟩
def a__law_draw : He5.DefA := ⟨fun K => He.fAd K ("_law_draw", none), "_law_draw", "_law_draw", defArgs s__law_draw, defBody s__law_draw, defScope s__law_draw, [], []⟩
def a__law_pick : He5.DefA := ⟨fun K => He.fAd K ("_law_pick", none), "_law_pick", "_law_pick", defArgs s__law_pick, defBody s__law_pick, defScope s__law_pick, [], []⟩
def a__law_watch : He5.DefA := ⟨fun K => He.fAd K ("_law_watch", none), "_law_watch", "_law_watch", defArgs s__law_watch, defBody s__law_watch, defScope s__law_watch, [], []⟩
def a__law_made : He5.DefA := ⟨fun K => He.fAd K ("_law_made", none), "_law_made", "_law_made", defArgs s__law_made, defBody s__law_made, defScope s__law_made, [], []⟩
def a__law_row : He5.DefA := ⟨fun K => He.fAd K ("_law_row", none), "_law_row", "_law_row", defArgs s__law_row, defBody s__law_row, defScope s__law_row, [], []⟩
def a__law_place : He5.DefA := ⟨fun K => He.fAd K ("_law_place", none), "_law_place", "_law_place", defArgs s__law_place, defBody s__law_place, defScope s__law_place, [], []⟩
def a__law_weights : He5.DefA := ⟨fun K => He.fAd K ("_law_weights", none), "_law_weights", "_law_weights", defArgs s__law_weights, defBody s__law_weights, defScope s__law_weights, [], []⟩
def a_law : He5.DefA := ⟨fun K => He.fAd K ("law", none), "law", "law", defArgs s_law, defBody s_law, defScope s_law, [], []⟩
def allDefs : List He5.DefA := [a_is_number, a_is_between, a_is_list, a_mode_right, a_need_mode, a_first_wrong, a_is_word, a_is_line, a_need_moves, a_need_words, a_init, a_moves, a_words, a_kinds, a_need_watch, a_need_shown, a_known_by, a_next_by, a_reached_by, a_unknown_by, a_behind_by, a_led_by, a_can_lead, a_pair_behind, a_pairs_known, a_pairs_next, a_pairs_reached, a_both_behind, a_need_told, a_both_by, a_words_kept, a_leak_by, a_need_told_shown, a_both_lead, a_leak, a_need_weights, a_divisor, a_power, a_fraction_of, a_heavier_by, a_numbers_by, a_words_by, a_odds_by, a_need_odds, a_odds, a_greatest_of, a_with_item, a_guessed_by, a_is_above, a_most_telling, a__law_begun, a__law_blend, a__law_draw, a__law_pick, a__law_watch, a__law_made, a__law_row, a__law_place, a__law_weights, a_law]
def allFacts : List He.Fa := [.free "abs", .free "all", .free "bool", .free "enumerate", .free "int", .free "isinstance", .free "len", .free "list", .free "max", .free "min", .free "range", .free "set", .free "sorted", .free "str", .free "sum", .free "tuple", .glo "BEGIN", .glo "BOTH_BEGIN", .str "COUNTED" "counted", .str "LOST" "lost", .int "MOST_EVENTS" 300, .int "MOST_KINDS" 4, .int "MOST_PLACES" 6, .int "MOST_PRICE" 1000000, .int "MOST_WORD" 3, .glo "first_wrong", .glo "is_word", .glo "Watch", .cls "Watch", .noat "Watch" "own_moves", .noat "Watch" "own_words", .mkr "Watch", .glo "is_number", .glo "is_between", .glo "is_list", .glo "mode_right", .glo "need_mode", .glo "is_line", .glo "need_moves", .glo "need_words", .glo "need_watch", .glo "need_shown", .glo "known_by", .glo "next_by", .glo "reached_by", .glo "unknown_by", .glo "behind_by", .glo "led_by", .glo "can_lead", .glo "pair_behind", .glo "pairs_known", .glo "pairs_next", .glo "pairs_reached", .glo "both_behind", .glo "need_told", .glo "both_by", .glo "words_kept", .glo "leak_by", .glo "need_told_shown", .glo "both_lead", .glo "leak", .glo "need_weights", .glo "divisor", .glo "power", .glo "fraction_of", .glo "heavier_by", .glo "numbers_by", .glo "words_by", .glo "odds_by", .glo "need_odds", .glo "odds", .glo "greatest_of", .glo "with_item", .glo "guessed_by", .glo "is_above", .glo "most_telling", .glo "_law_begun", .glo "_law_blend", .glo "_law_draw", .glo "_law_pick", .glo "_law_watch", .glo "_law_made", .glo "_law_row", .glo "_law_place", .glo "_law_weights", .glo "law"]
def inner : PySem.W.Frag → Addr := itAt (fun K => He.ga K "BOTH_BEGIN") 0
def exB (K : PySem.W.Frag) : Bool := tpB K (He.ga K "BEGIN") [.int 0] && (tpB K (He.ga K "BOTH_BEGIN") [.ref (inner K)] && (tpB K (inner K) [.int 0, .int 0] && (clsB K "Watch" && (propB K "Watch" "moves" && (propB K "Watch" "words" && propB K "Watch" "kinds")))))
def tabDefs : List He.Defn := [("need_moves", none)]
abbrev lamQ : Str := ("need_moves" : Str) ++ ".<locals>." ++ "<lambda>"
variable [TabsT]
def GG (P : Program) (K : PySem.W.Frag) (w : World) (fd : FuncData) : Gc P ⟨K, w⟩ where
  C := He.ga K "Watch"
  f_is_word := He.ga K "is_word"
  f_first_wrong := He.ga K "first_wrong"
  fd_first_wrong := fd
  c_need_moves := (He.cT K ("need_moves", none)).1
  t_need_moves := (He.cT K ("need_moves", none)).2
  a_BEGIN := He.ga K "BEGIN"
  a_BOTH_BEGIN := He.ga K "BOTH_BEGIN"
  S_is_number := S_is_number 
  S_is_between := S_is_between 
  S_is_list := S_is_list 
  S_mode_right := S_mode_right 
  S_need_mode := S_need_mode 
  S_first_wrong := S_first_wrong (He.ga K "is_word")
  S_is_word := S_is_word 
  S_is_line := S_is_line 
  S_need_moves := S_need_moves 
  S_need_words := S_need_words 
  S_init := S_init (He.ga K "Watch")
  S_moves := S_moves (He.ga K "Watch")
  S_words := S_words (He.ga K "Watch")
  S_kinds := S_kinds (He.ga K "Watch")
  S_need_watch := S_need_watch (He.ga K "Watch")
  S_need_shown := S_need_shown (He.ga K "Watch")
  S_known_by := S_known_by (He.ga K "Watch")
  S_next_by := S_next_by (He.ga K "Watch")
  S_reached_by := S_reached_by (He.ga K "Watch")
  S_unknown_by := S_unknown_by (He.ga K "Watch")
  S_behind_by := S_behind_by (He.ga K "Watch")
  S_led_by := S_led_by (He.ga K "Watch")
  S_can_lead := S_can_lead (He.ga K "Watch")
  S_pair_behind := S_pair_behind (He.ga K "Watch")
  S_pairs_known := S_pairs_known (He.ga K "Watch")
  S_pairs_next := S_pairs_next (He.ga K "Watch")
  S_pairs_reached := S_pairs_reached (He.ga K "Watch")
  S_both_behind := S_both_behind (He.ga K "Watch")
  S_need_told := S_need_told (He.ga K "Watch")
  S_both_by := S_both_by (He.ga K "Watch")
  S_words_kept := S_words_kept (He.ga K "Watch")
  S_leak_by := S_leak_by (He.ga K "Watch")
  S_need_told_shown := S_need_told_shown (He.ga K "Watch")
  S_both_lead := S_both_lead (He.ga K "Watch")
  S_leak := S_leak (He.ga K "Watch")
  S_need_weights := S_need_weights (He.ga K "Watch")
  S_divisor := S_divisor 
  S_power := S_power 
  S_fraction_of := S_fraction_of 
  S_heavier_by := S_heavier_by (He.ga K "Watch")
  S_numbers_by := S_numbers_by (He.ga K "Watch")
  S_words_by := S_words_by (He.ga K "Watch")
  S_odds_by := S_odds_by (He.ga K "Watch")
  S_need_odds := S_need_odds (He.ga K "Watch")
  S_odds := S_odds (He.ga K "Watch")
  S_greatest_of := S_greatest_of 
  S_with_item := S_with_item 
  S_guessed_by := S_guessed_by (He.ga K "Watch")
  S_is_above := S_is_above 
  S_most_telling := S_most_telling (He.ga K "Watch")
  S__law_begun := S__law_begun P ⟨K, w⟩
  S__law_blend := S__law_blend P ⟨K, w⟩
  S__law_draw := S__law_draw (tapeD P ⟨K, w⟩)
  S__law_pick := S__law_pick (tapeD P ⟨K, w⟩)
  S__law_watch := S__law_watch (tapeD P ⟨K, w⟩)
  S__law_made := S__law_made (He.ga K "Watch")
  S__law_row := S__law_row (tapeD P ⟨K, w⟩)
  S__law_place := S__law_place 
  S__law_weights := S__law_weights (tapeD P ⟨K, w⟩)
section
variable {P : Program} {w : World} {K : PySem.W.Frag} {mg : Str → Option Value} {base h : Heap} {fd : FuncData}
theorem fx (X : K.In h) (G : h.Ns mainGlobals mg) (c : He5.SaysA allFacts allDefs K) (ex : exB K = true) : Fx P w K mg (GG P K w fd) := by
  unfold exB at ex
  simp only [Bool.and_eq_true] at ex
  obtain ⟨e1, e2, e3, e4, _⟩ := ex
  exact ⟨He.free_ok X G (c.fact 0 (f := .free "abs") rfl),
    He.free_ok X G (c.fact 1 (f := .free "all") rfl),
    He.free_ok X G (c.fact 2 (f := .free "bool") rfl),
    He.free_ok X G (c.fact 3 (f := .free "enumerate") rfl),
    He.free_ok X G (c.fact 4 (f := .free "int") rfl),
    He.free_ok X G (c.fact 5 (f := .free "isinstance") rfl),
    He.free_ok X G (c.fact 6 (f := .free "len") rfl),
    He.free_ok X G (c.fact 7 (f := .free "list") rfl),
    He.free_ok X G (c.fact 8 (f := .free "max") rfl),
    He.free_ok X G (c.fact 9 (f := .free "min") rfl),
    He.free_ok X G (c.fact 10 (f := .free "range") rfl),
    He.free_ok X G (c.fact 11 (f := .free "set") rfl),
    He.free_ok X G (c.fact 12 (f := .free "sorted") rfl),
    He.free_ok X G (c.fact 13 (f := .free "str") rfl),
    He.free_ok X G (c.fact 14 (f := .free "sum") rfl),
    He.free_ok X G (c.fact 15 (f := .free "tuple") rfl),
    He.glo_ok X G (c.fact 16 (f := .glo "BEGIN") rfl),
    fun F => ⟨_, [.int 0], rfl, tpB_ok e1 F, by decide, .one rfl⟩,
    He.glo_ok X G (c.fact 17 (f := .glo "BOTH_BEGIN") rfl),
    fun F => ⟨_, [.ref (inner K)], rfl, tpB_ok e2 F, (show 1 ≤ sizeLine by decide), .one ⟨_, [.int 0, .int 0], rfl, tpB_ok e3 F, by decide, .cons rfl (.one rfl)⟩⟩,
    He.str_ok X G (c.fact 18 (f := .str "COUNTED" "counted") rfl),
    He.str_ok X G (c.fact 19 (f := .str "LOST" "lost") rfl),
    He.int_ok X G (c.fact 20 (f := .int "MOST_EVENTS" 300) rfl),
    He.int_ok X G (c.fact 21 (f := .int "MOST_KINDS" 4) rfl),
    He.int_ok X G (c.fact 22 (f := .int "MOST_PLACES" 6) rfl),
    He.int_ok X G (c.fact 23 (f := .int "MOST_PRICE" 1000000) rfl),
    He.int_ok X G (c.fact 24 (f := .int "MOST_WORD" 3) rfl),
    He.glo_ok X G (c.fact 25 (f := .glo "first_wrong") rfl),
    He.glo_ok X G (c.fact 26 (f := .glo "is_word") rfl),
    He.glo_ok X G (c.fact 27 (f := .glo "Watch") rfl),
    clsB_ok (He.cls_ok (c.fact 28 (f := .cls "Watch") rfl)) e4,
    He.cls_ok (c.fact 28 (f := .cls "Watch") rfl),
    He.noat_ok (c.fact 29 (f := .noat "Watch" "own_moves") rfl),
    He.noat_ok (c.fact 30 (f := .noat "Watch" "own_words") rfl)⟩
theorem code_at {K : PySem.W.Frag} {x qual : Str} {params : Arguments} {body : List Stmt} {scope : Scope} {dvs : List V} {kws : List (Str × V)} {p : He.Defn} {fd : FuncData} (F : FunD K x qual params body scope dvs kws (He.fAd K p) fd) : fd.code = .ref (He.cT K p).1 := by
  obtain ⟨oc, od, dV, kV, doc, pm, an, cdv, ct, osl, rfl, lk, hcd, _, _⟩ := F.ex
  obtain ⟨c, e⟩ := He.codeIn_ref hcd
  subst e
  show Value.ref c = .ref (He.codeOf K p)
  rw [He.codeOf_eq lk rfl]
theorem law_ok (X : K.In h) (Gn : h.Ns mainGlobals mg) (c : He5.SaysA allFacts allDefs K) (ex : exB K = true) (TB : LamX.TabB base mg (He.cT K ("need_moves", none)).1 (He.cT K ("need_moves", none)).2) (tabIn : ((He.cT K ("need_moves", none)).2, lamQ) ∈ TabsT.T) (tabU : ∀ p ∈ TabsT.T, p.1 = (He.cT K ("need_moves", none)).2 → p.2 = lamQ) :
    ∃ fd, FunD K "law" "law" (defArgs s_law) (defBody s_law) (defScope s_law) [] [] (He.ga K "law") fd ∧ FnOk P w K mg base CX0 11 (He.ga K "law") fd ["script"] (spD ⟨K, w⟩ S_law) := by
  obtain ⟨fd_is_number, F_is_number⟩ := c.def_ 0 (d := a_is_number) rfl
  obtain ⟨fd_is_between, F_is_between⟩ := c.def_ 1 (d := a_is_between) rfl
  obtain ⟨fd_is_list, F_is_list⟩ := c.def_ 2 (d := a_is_list) rfl
  obtain ⟨fd_mode_right, F_mode_right⟩ := c.def_ 3 (d := a_mode_right) rfl
  obtain ⟨fd_need_mode, F_need_mode⟩ := c.def_ 4 (d := a_need_mode) rfl
  obtain ⟨fd_first_wrong, F_first_wrong⟩ := c.def_ 5 (d := a_first_wrong) rfl
  obtain ⟨fd_is_word, F_is_word⟩ := c.def_ 6 (d := a_is_word) rfl
  obtain ⟨fd_is_line, F_is_line⟩ := c.def_ 7 (d := a_is_line) rfl
  obtain ⟨fd_need_moves, F_need_moves⟩ := c.def_ 8 (d := a_need_moves) rfl
  obtain ⟨fd_need_words, F_need_words⟩ := c.def_ 9 (d := a_need_words) rfl
  obtain ⟨fd_init, F_init⟩ := c.def_ 10 (d := a_init) rfl
  obtain ⟨fd_moves, F_moves⟩ := c.def_ 11 (d := a_moves) rfl
  obtain ⟨fd_words, F_words⟩ := c.def_ 12 (d := a_words) rfl
  obtain ⟨fd_kinds, F_kinds⟩ := c.def_ 13 (d := a_kinds) rfl
  obtain ⟨fd_need_watch, F_need_watch⟩ := c.def_ 14 (d := a_need_watch) rfl
  obtain ⟨fd_need_shown, F_need_shown⟩ := c.def_ 15 (d := a_need_shown) rfl
  obtain ⟨fd_known_by, F_known_by⟩ := c.def_ 16 (d := a_known_by) rfl
  obtain ⟨fd_next_by, F_next_by⟩ := c.def_ 17 (d := a_next_by) rfl
  obtain ⟨fd_reached_by, F_reached_by⟩ := c.def_ 18 (d := a_reached_by) rfl
  obtain ⟨fd_unknown_by, F_unknown_by⟩ := c.def_ 19 (d := a_unknown_by) rfl
  obtain ⟨fd_behind_by, F_behind_by⟩ := c.def_ 20 (d := a_behind_by) rfl
  obtain ⟨fd_led_by, F_led_by⟩ := c.def_ 21 (d := a_led_by) rfl
  obtain ⟨fd_can_lead, F_can_lead⟩ := c.def_ 22 (d := a_can_lead) rfl
  obtain ⟨fd_pair_behind, F_pair_behind⟩ := c.def_ 23 (d := a_pair_behind) rfl
  obtain ⟨fd_pairs_known, F_pairs_known⟩ := c.def_ 24 (d := a_pairs_known) rfl
  obtain ⟨fd_pairs_next, F_pairs_next⟩ := c.def_ 25 (d := a_pairs_next) rfl
  obtain ⟨fd_pairs_reached, F_pairs_reached⟩ := c.def_ 26 (d := a_pairs_reached) rfl
  obtain ⟨fd_both_behind, F_both_behind⟩ := c.def_ 27 (d := a_both_behind) rfl
  obtain ⟨fd_need_told, F_need_told⟩ := c.def_ 28 (d := a_need_told) rfl
  obtain ⟨fd_both_by, F_both_by⟩ := c.def_ 29 (d := a_both_by) rfl
  obtain ⟨fd_words_kept, F_words_kept⟩ := c.def_ 30 (d := a_words_kept) rfl
  obtain ⟨fd_leak_by, F_leak_by⟩ := c.def_ 31 (d := a_leak_by) rfl
  obtain ⟨fd_need_told_shown, F_need_told_shown⟩ := c.def_ 32 (d := a_need_told_shown) rfl
  obtain ⟨fd_both_lead, F_both_lead⟩ := c.def_ 33 (d := a_both_lead) rfl
  obtain ⟨fd_leak, F_leak⟩ := c.def_ 34 (d := a_leak) rfl
  obtain ⟨fd_need_weights, F_need_weights⟩ := c.def_ 35 (d := a_need_weights) rfl
  obtain ⟨fd_divisor, F_divisor⟩ := c.def_ 36 (d := a_divisor) rfl
  obtain ⟨fd_power, F_power⟩ := c.def_ 37 (d := a_power) rfl
  obtain ⟨fd_fraction_of, F_fraction_of⟩ := c.def_ 38 (d := a_fraction_of) rfl
  obtain ⟨fd_heavier_by, F_heavier_by⟩ := c.def_ 39 (d := a_heavier_by) rfl
  obtain ⟨fd_numbers_by, F_numbers_by⟩ := c.def_ 40 (d := a_numbers_by) rfl
  obtain ⟨fd_words_by, F_words_by⟩ := c.def_ 41 (d := a_words_by) rfl
  obtain ⟨fd_odds_by, F_odds_by⟩ := c.def_ 42 (d := a_odds_by) rfl
  obtain ⟨fd_need_odds, F_need_odds⟩ := c.def_ 43 (d := a_need_odds) rfl
  obtain ⟨fd_odds, F_odds⟩ := c.def_ 44 (d := a_odds) rfl
  obtain ⟨fd_greatest_of, F_greatest_of⟩ := c.def_ 45 (d := a_greatest_of) rfl
  obtain ⟨fd_with_item, F_with_item⟩ := c.def_ 46 (d := a_with_item) rfl
  obtain ⟨fd_guessed_by, F_guessed_by⟩ := c.def_ 47 (d := a_guessed_by) rfl
  obtain ⟨fd_is_above, F_is_above⟩ := c.def_ 48 (d := a_is_above) rfl
  obtain ⟨fd_most_telling, F_most_telling⟩ := c.def_ 49 (d := a_most_telling) rfl
  obtain ⟨fd__law_begun, F__law_begun⟩ := c.def_ 50 (d := a__law_begun) rfl
  obtain ⟨fd__law_blend, F__law_blend⟩ := c.def_ 51 (d := a__law_blend) rfl
  obtain ⟨fd__law_draw, F__law_draw⟩ := c.def_ 52 (d := a__law_draw) rfl
  obtain ⟨fd__law_pick, F__law_pick⟩ := c.def_ 53 (d := a__law_pick) rfl
  obtain ⟨fd__law_watch, F__law_watch⟩ := c.def_ 54 (d := a__law_watch) rfl
  obtain ⟨fd__law_made, F__law_made⟩ := c.def_ 55 (d := a__law_made) rfl
  obtain ⟨fd__law_row, F__law_row⟩ := c.def_ 56 (d := a__law_row) rfl
  obtain ⟨fd__law_place, F__law_place⟩ := c.def_ 57 (d := a__law_place) rfl
  obtain ⟨fd__law_weights, F__law_weights⟩ := c.def_ 58 (d := a__law_weights) rfl
  obtain ⟨fd_law, F_law⟩ := c.def_ 59 (d := a_law) rfl
  have g : Fx P w K mg (GG P K w fd_first_wrong) := fx X Gn c ex
  unfold exB at ex
  simp only [Bool.and_eq_true] at ex
  obtain ⟨_, _, _, _, p1, p2, p3⟩ := ex
  have o_is_number : FnOk P w K mg base CX0 1 _ fd_is_number ["thing"] (spD ⟨K, w⟩ (GG P K w fd_first_wrong).S_is_number) :=
    fn_d F_is_number sc_is_number (by rintro _ Q ⟨i, rfl, h⟩ <;> rfl) (by decide) (fun cdv A outer s H E hr => w_is_number g  hr) (rd_is_number (GG P K w fd_first_wrong))
  have k_is_number : Kn P w K mg base 1 "is_number" (GG P K w fd_first_wrong).S_is_number [] := ⟨⟨_, _, _, [], o_is_number, (He.glo_ok X Gn (c.fact 32 (f := .glo "is_number") rfl)), F_is_number.kp, F_is_number.bindsN (fun _ _ _ _ _ _ us hl => match us, hl with | [_], _ => rfl), .nil⟩, rfl⟩
  have o_is_between : FnOk P w K mg base CX0 2 _ fd_is_between ["thing", "low", "high"] (spD ⟨K, w⟩ (GG P K w fd_first_wrong).S_is_between) :=
    fn_d F_is_between sc_is_between (by rintro _ Q ⟨i, lo, hi, rfl, h⟩ <;> rfl) (by decide) (fun cdv A outer s H E hr => w_is_between g k_is_number hr) (rd_is_between (GG P K w fd_first_wrong) rfl)
  have k_is_between : Kn P w K mg base 2 "is_between" (GG P K w fd_first_wrong).S_is_between [] := ⟨⟨_, _, _, [], o_is_between, (He.glo_ok X Gn (c.fact 33 (f := .glo "is_between") rfl)), F_is_between.kp, F_is_between.bindsN (fun _ _ _ _ _ _ us hl => match us, hl with | [_, _, _], _ => rfl), .nil⟩, rfl⟩
  have o_is_list : FnOk P w K mg base CX0 1 _ fd_is_list ["thing"] (spD ⟨K, w⟩ (GG P K w fd_first_wrong).S_is_list) :=
    fn_d F_is_list sc_is_list (by rintro _ Q ⟨xs, rfl | rfl, h⟩ <;> rfl) (by decide) (fun cdv A outer s H E hr => w_is_list g  hr) (rd_is_list (GG P K w fd_first_wrong))
  have k_is_list : Kn P w K mg base 1 "is_list" (GG P K w fd_first_wrong).S_is_list [] := ⟨⟨_, _, _, [], o_is_list, (He.glo_ok X Gn (c.fact 34 (f := .glo "is_list") rfl)), F_is_list.kp, F_is_list.bindsN (fun _ _ _ _ _ _ us hl => match us, hl with | [_], _ => rfl), .nil⟩, rfl⟩
  have o_mode_right : FnOk P w K mg base CX0 1 _ fd_mode_right ["thing"] (spD ⟨K, w⟩ (GG P K w fd_first_wrong).S_mode_right) :=
    fn_d F_mode_right sc_mode_right (by rintro _ Q ⟨m, rfl, h⟩ <;> rfl) (by decide) (fun cdv A outer s H E hr => w_mode_right g  hr) (rd_mode_right (GG P K w fd_first_wrong))
  have k_mode_right : Kn P w K mg base 1 "mode_right" (GG P K w fd_first_wrong).S_mode_right [] := ⟨⟨_, _, _, [], o_mode_right, (He.glo_ok X Gn (c.fact 35 (f := .glo "mode_right") rfl)), F_mode_right.kp, F_mode_right.bindsN (fun _ _ _ _ _ _ us hl => match us, hl with | [_], _ => rfl), .nil⟩, rfl⟩
  have o_need_mode : FnOk P w K mg base CX0 2 _ fd_need_mode ["mode"] (spD ⟨K, w⟩ (GG P K w fd_first_wrong).S_need_mode) :=
    fn_d F_need_mode sc_need_mode (by rintro _ Q ⟨m, rfl, h⟩ <;> rfl) (by decide) (fun cdv A outer s H E hr => w_need_mode g k_mode_right hr) (rd_need_mode (GG P K w fd_first_wrong) rfl)
  have k_need_mode : Kn P w K mg base 2 "need_mode" (GG P K w fd_first_wrong).S_need_mode [] := ⟨⟨_, _, _, [], o_need_mode, (He.glo_ok X Gn (c.fact 36 (f := .glo "need_mode") rfl)), F_need_mode.kp, F_need_mode.bindsN (fun _ _ _ _ _ _ us hl => match us, hl with | [_], _ => rfl), .nil⟩, rfl⟩
  have o_is_word : FnOk P w K mg base CX0 3 _ fd_is_word ["thing"] (spD ⟨K, w⟩ (GG P K w fd_first_wrong).S_is_word) :=
    fn_d F_is_word sc_is_word (by rintro _ Q ⟨i, rfl, h⟩ <;> rfl) (by decide) (fun cdv A outer s H E hr => w_is_word g k_is_between hr) (rd_is_word (GG P K w fd_first_wrong) rfl)
  have k_is_word : Kn P w K mg base 3 "is_word" (GG P K w fd_first_wrong).S_is_word [] := ⟨⟨_, _, _, [], o_is_word, (He.glo_ok X Gn (c.fact 26 (f := .glo "is_word") rfl)), F_is_word.kp, F_is_word.bindsN (fun _ _ _ _ _ _ us hl => match us, hl with | [_], _ => rfl), .nil⟩, rfl⟩
  have kf_is_word : KnF P w K mg base 3 (He.ga K "is_word") S_is_word := ⟨⟨_, _, o_is_word, F_is_word.kp, F_is_word.bindsN (fun _ _ _ _ _ _ us hl => match us, hl with | [_], _ => rfl)⟩⟩
  have o_first_wrong : FnOk P w K mg base CX0 4 _ fd_first_wrong ["several", "fits"] (spD ⟨K, w⟩ (S_first_wrong (He.ga K "is_word"))) :=
    fn_d F_first_wrong sc_first_wrong (by rintro _ Q ⟨ns, rfl, hl, hw, h⟩; rfl) (by decide) (fun cdv A outer s H E hr => w_first_wrong g (.rf (He.ga K "is_word")) S_is_word hr fun e te ue p1 p2 h he => ⟨_, de_callL 1 kf_is_word hr (Nat.le_refl _) h (he := he)⟩) rd_first_wrong
  have k_first_wrong : Kn P w K mg base 4 "first_wrong" (S_first_wrong (He.ga K "is_word")) [] := ⟨⟨_, _, _, [], o_first_wrong, (He.glo_ok X Gn (c.fact 25 (f := .glo "first_wrong") rfl)), F_first_wrong.kp, F_first_wrong.bindsN (fun _ _ _ _ _ _ us hl => match us, hl with | [_, _], _ => rfl), .nil⟩, rfl⟩
  have o_is_line : FnOk P w K mg base CX0 3 _ fd_is_line ["thing", "kinds", "places"] (spD ⟨K, w⟩ (GG P K w fd_first_wrong).S_is_line) :=
    fn_d F_is_line sc_is_line (by rintro _ Q ⟨ns, p, rfl, hl, hw, h⟩ <;> rfl) (by decide) (fun cdv A outer s H E hr => w_is_line g k_is_between k_is_list hr) (rd_is_line (GG P K w fd_first_wrong) rfl rfl)
  have k_is_line : Kn P w K mg base 3 "is_line" (GG P K w fd_first_wrong).S_is_line [] := ⟨⟨_, _, _, [], o_is_line, (He.glo_ok X Gn (c.fact 37 (f := .glo "is_line") rfl)), F_is_line.kp, F_is_line.bindsN (fun _ _ _ _ _ _ us hl => match us, hl with | [_, _, _], _ => rfl), .nil⟩, rfl⟩
  have hcode : fd_need_moves.code = .ref (He.cT K ("need_moves", none)).1 := code_at F_need_moves
  have o_need_moves : FnOk P w K mg base CX0 7 _ fd_need_moves ["moves"] (spD ⟨K, w⟩ S_need_moves) :=
    fn_dC F_need_moves sc_need_moves (by rintro _ Q ⟨W, k, ok, rfl, h⟩; rfl) (by decide) (fun A outer s H E hr => w_need_moves g F_first_wrong (F_first_wrong.bindsN (fun _ _ _ _ _ _ us hl => match us, hl with | [_, _], _ => rfl)) TB tabIn tabU hcode k_is_line k_is_list hr) (rd_need_moves (GG P K w fd_first_wrong) rfl rfl)
  have k_need_moves : Kn P w K mg base 7 "need_moves" (GG P K w fd_first_wrong).S_need_moves [] := ⟨⟨_, _, _, [], o_need_moves, (He.glo_ok X Gn (c.fact 38 (f := .glo "need_moves") rfl)), F_need_moves.kp, F_need_moves.bindsN (fun _ _ _ _ _ _ us hl => match us, hl with | [_], _ => rfl), .nil⟩, rfl⟩
  have o_need_words : FnOk P w K mg base CX0 5 _ fd_need_words ["words", "many"] (spD ⟨K, w⟩ (GG P K w fd_first_wrong).S_need_words) :=
    fn_d F_need_words sc_need_words (by rintro _ Q ⟨ns, rfl, hl, hw, h⟩ <;> rfl) (by decide) (fun cdv A outer s H E hr => w_need_words g k_first_wrong k_is_list hr) (rd_need_words (GG P K w fd_first_wrong) rfl rfl)
  have k_need_words : Kn P w K mg base 5 "need_words" (GG P K w fd_first_wrong).S_need_words [] := ⟨⟨_, _, _, [], o_need_words, (He.glo_ok X Gn (c.fact 39 (f := .glo "need_words") rfl)), F_need_words.kp, F_need_words.bindsN (fun _ _ _ _ _ _ us hl => match us, hl with | [_, _], _ => rfl), .nil⟩, rfl⟩
  have o_init : FnOk P w K mg base CX0 8 _ fd_init ["self", "moves", "words"] (spM ⟨K, w⟩ (GG P K w fd_first_wrong).S_init) :=
    fn_m F_init sc_init (by rintro x0 _ Q ⟨W, k, ok, rfl, rfl, h⟩; rfl) (by decide) (fun cdv A outer s H E hr => w_init g k_need_moves k_need_words hr) (rd_init (GG P K w fd_first_wrong) rfl rfl)
  have k_Watch : KnC P w K mg base 8 "Watch" (He.ga K "Watch") (GG P K w fd_first_wrong).S_init [] := ⟨⟨_, _, _, [], He.mkr_ok (c.fact 31 (f := .mkr "Watch") rfl), o_init, g.v_Watch, F_init.bindsN (fun _ _ _ _ _ _ us hl => match us, hl with | [_, _, _], _ => rfl), .nil⟩, rfl⟩
  have o_moves : FnOk P w K mg base CX0 1 _ fd_moves ["self"] (spD ⟨K, w⟩ (GG P K w fd_first_wrong).S_moves) :=
    fn_d F_moves sc_moves (by rintro _ Q ⟨W, rfl, h⟩ <;> rfl) (by decide) (fun cdv A outer s H E hr => w_moves g  hr) (rd_moves (GG P K w fd_first_wrong))
  have p_moves : KnP P w K mg base 1 (He.ga K "Watch") "moves" (GG P K w fd_first_wrong).S_moves := ⟨⟨_, _, _, _, [], propB_ok p1, o_moves, F_moves.bindsN (fun _ _ _ _ _ _ us hl => match us, hl with | [_], _ => rfl), .nil⟩, g.cl⟩
  have o_words : FnOk P w K mg base CX0 1 _ fd_words ["self"] (spD ⟨K, w⟩ (GG P K w fd_first_wrong).S_words) :=
    fn_d F_words sc_words (by rintro _ Q ⟨W, rfl, h⟩ <;> rfl) (by decide) (fun cdv A outer s H E hr => w_words g  hr) (rd_words (GG P K w fd_first_wrong))
  have p_words : KnP P w K mg base 1 (He.ga K "Watch") "words" (GG P K w fd_first_wrong).S_words := ⟨⟨_, _, _, _, [], propB_ok p2, o_words, F_words.bindsN (fun _ _ _ _ _ _ us hl => match us, hl with | [_], _ => rfl), .nil⟩, g.cl⟩
  have o_kinds : FnOk P w K mg base CX0 1 _ fd_kinds ["self"] (spD ⟨K, w⟩ (GG P K w fd_first_wrong).S_kinds) :=
    fn_d F_kinds sc_kinds (by rintro _ Q ⟨W, k, ok, rfl, h⟩ <;> rfl) (by decide) (fun cdv A outer s H E hr => w_kinds g  hr) (rd_kinds (GG P K w fd_first_wrong))
  have p_kinds : KnP P w K mg base 1 (He.ga K "Watch") "kinds" (GG P K w fd_first_wrong).S_kinds := ⟨⟨_, _, _, _, [], propB_ok p3, o_kinds, F_kinds.bindsN (fun _ _ _ _ _ _ us hl => match us, hl with | [_], _ => rfl), .nil⟩, g.cl⟩
  have o_need_watch : FnOk P w K mg base CX0 1 _ fd_need_watch ["watch", "part"] (spD ⟨K, w⟩ (GG P K w fd_first_wrong).S_need_watch) :=
    fn_d F_need_watch sc_need_watch (by rintro _ Q ⟨W, d, rfl, h⟩ <;> rfl) (by decide) (fun cdv A outer s H E hr => w_need_watch g  hr) (rd_need_watch (GG P K w fd_first_wrong))
  obtain ⟨ds2, v2, b2⟩ := F_need_watch.binds1 (ps := ["watch", "part"]) 2 1 (by simp [a_need_watch, He5.DefA.dvs]) rfl (fun T kV doc pm an cdv ct us its l1 l2 => match us, its, l1, l2 with | [_, _], [_], _, _ => ⟨_, rfl, rfl⟩)
  obtain ⟨ds1, v1, b1⟩ := F_need_watch.binds1 (ps := ["watch", "part"]) 1 0 (by simp [a_need_watch, He5.DefA.dvs]) rfl (fun T kV doc pm an cdv ct us its l1 l2 => match us, its, l1, l2 with | [_], [_], _, _ => ⟨_, rfl, rfl⟩)
  have k_need_watch : Kn P w K mg base 1 "need_watch" (GG P K w fd_first_wrong).S_need_watch [] := ⟨⟨_, _, _, ds2, o_need_watch, (He.glo_ok X Gn (c.fact 40 (f := .glo "need_watch") rfl)), F_need_watch.kp, b2, v2⟩, rfl⟩
  have k_need_watch_1 : Kn P w K mg base 1 "need_watch" (GG P K w fd_first_wrong).S_need_watch [.non] := ⟨⟨_, _, _, ds1, o_need_watch, (He.glo_ok X Gn (c.fact 40 (f := .glo "need_watch") rfl)), F_need_watch.kp, b1, v1⟩, rfl⟩
  have o_need_shown : FnOk P w K mg base CX0 3 _ fd_need_shown ["watch", "shown"] (spD ⟨K, w⟩ (GG P K w fd_first_wrong).S_need_shown) :=
    fn_d F_need_shown sc_need_shown (by rintro _ Q ⟨W, k, s, ok, sh, rfl, h⟩ <;> rfl) (by decide) (fun cdv A outer s H E hr => w_need_shown g k_is_between k_is_list p_kinds hr) (rd_need_shown (GG P K w fd_first_wrong) rfl rfl rfl)
  have k_need_shown : Kn P w K mg base 3 "need_shown" (GG P K w fd_first_wrong).S_need_shown [] := ⟨⟨_, _, _, [], o_need_shown, (He.glo_ok X Gn (c.fact 41 (f := .glo "need_shown") rfl)), F_need_shown.kp, F_need_shown.bindsN (fun _ _ _ _ _ _ us hl => match us, hl with | [_, _], _ => rfl), .nil⟩, rfl⟩
  have o_known_by : FnOk P w K mg base CX0 3 _ fd_known_by ["watch", "places", "kind"] (spD ⟨K, w⟩ (GG P K w fd_first_wrong).S_known_by) :=
    fn_d F_known_by sc_known_by (by rintro _ Q ⟨W, K, ps, k, ok, p, hk, rfl, h⟩ <;> rfl) (by decide) (fun cdv A outer s H E hr => w_known_by g p_moves hr) (rd_known_by (GG P K w fd_first_wrong) rfl)
  have k_known_by : Kn P w K mg base 3 "known_by" (GG P K w fd_first_wrong).S_known_by [] := ⟨⟨_, _, _, [], o_known_by, (He.glo_ok X Gn (c.fact 42 (f := .glo "known_by") rfl)), F_known_by.kp, F_known_by.bindsN (fun _ _ _ _ _ _ us hl => match us, hl with | [_, _, _], _ => rfl), .nil⟩, rfl⟩
  have o_next_by : FnOk P w K mg base CX0 3 _ fd_next_by ["watch", "places"] (spD ⟨K, w⟩ (GG P K w fd_first_wrong).S_next_by) :=
    fn_d F_next_by sc_next_by (by rintro _ Q ⟨W, K, ps, ok, p, rfl, h⟩ <;> rfl) (by decide) (fun cdv A outer s H E hr => w_next_by g p_moves hr) (rd_next_by (GG P K w fd_first_wrong) rfl)
  have k_next_by : Kn P w K mg base 3 "next_by" (GG P K w fd_first_wrong).S_next_by [] := ⟨⟨_, _, _, [], o_next_by, (He.glo_ok X Gn (c.fact 43 (f := .glo "next_by") rfl)), F_next_by.kp, F_next_by.bindsN (fun _ _ _ _ _ _ us hl => match us, hl with | [_, _], _ => rfl), .nil⟩, rfl⟩
  have o_reached_by : FnOk P w K mg base CX0 3 _ fd_reached_by ["watch", "places"] (spD ⟨K, w⟩ (GG P K w fd_first_wrong).S_reached_by) :=
    fn_d F_reached_by sc_reached_by (by rintro _ Q ⟨W, K, ps, ok, p, rfl, h⟩ <;> rfl) (by decide) (fun cdv A outer s H E hr => w_reached_by g p_moves hr) (rd_reached_by (GG P K w fd_first_wrong) rfl)
  have k_reached_by : Kn P w K mg base 3 "reached_by" (GG P K w fd_first_wrong).S_reached_by [] := ⟨⟨_, _, _, [], o_reached_by, (He.glo_ok X Gn (c.fact 44 (f := .glo "reached_by") rfl)), F_reached_by.kp, F_reached_by.bindsN (fun _ _ _ _ _ _ us hl => match us, hl with | [_, _], _ => rfl), .nil⟩, rfl⟩
  have o_unknown_by : FnOk P w K mg base CX0 4 _ fd_unknown_by ["watch", "places", "mode"] (spD ⟨K, w⟩ (GG P K w fd_first_wrong).S_unknown_by) :=
    fn_d F_unknown_by sc_unknown_by (by rintro _ Q ⟨W, K, m, ps, ok, p, rfl, h⟩ <;> rfl) (by decide) (fun cdv A outer s H E hr => w_unknown_by g k_next_by k_reached_by hr) (rd_unknown_by (GG P K w fd_first_wrong) rfl rfl)
  have k_unknown_by : Kn P w K mg base 4 "unknown_by" (GG P K w fd_first_wrong).S_unknown_by [] := ⟨⟨_, _, _, [], o_unknown_by, (He.glo_ok X Gn (c.fact 45 (f := .glo "unknown_by") rfl)), F_unknown_by.kp, F_unknown_by.bindsN (fun _ _ _ _ _ _ us hl => match us, hl with | [_, _, _], _ => rfl), .nil⟩, rfl⟩
  have o_behind_by : FnOk P w K mg base CX0 5 _ fd_behind_by ["watch", "places", "item", "mode"] (spD ⟨K, w⟩ (GG P K w fd_first_wrong).S_behind_by) :=
    fn_d F_behind_by sc_behind_by (by rintro _ Q ⟨W, K, m, ps, it, ok, p, hk, rfl, h⟩ <;> rfl) (by decide) (fun cdv A outer s H E hr => w_behind_by g k_known_by k_unknown_by hr) (rd_behind_by (GG P K w fd_first_wrong) rfl rfl)
  have k_behind_by : Kn P w K mg base 5 "behind_by" (GG P K w fd_first_wrong).S_behind_by [] := ⟨⟨_, _, _, [], o_behind_by, (He.glo_ok X Gn (c.fact 46 (f := .glo "behind_by") rfl)), F_behind_by.kp, F_behind_by.bindsN (fun _ _ _ _ _ _ us hl => match us, hl with | [_, _, _, _], _ => rfl), .nil⟩, rfl⟩
  have o_led_by : FnOk P w K mg base CX0 6 _ fd_led_by ["watch", "shown", "mode"] (spD ⟨K, w⟩ (GG P K w fd_first_wrong).S_led_by) :=
    fn_d F_led_by sc_led_by (by rintro _ Q ⟨W, K, m, s, ok, sh, rfl, h⟩ <;> rfl) (by decide) (fun cdv A outer s H E hr => w_led_by g k_behind_by hr) (rd_led_by (GG P K w fd_first_wrong) rfl)
  have k_led_by : Kn P w K mg base 6 "led_by" (GG P K w fd_first_wrong).S_led_by [] := ⟨⟨_, _, _, [], o_led_by, (He.glo_ok X Gn (c.fact 47 (f := .glo "led_by") rfl)), F_led_by.kp, F_led_by.bindsN (fun _ _ _ _ _ _ us hl => match us, hl with | [_, _, _], _ => rfl), .nil⟩, rfl⟩
  have o_can_lead : FnOk P w K mg base CX0 7 _ fd_can_lead ["watch", "shown", "mode"] (spD ⟨K, w⟩ (GG P K w fd_first_wrong).S_can_lead) :=
    fn_d F_can_lead sc_can_lead (by rintro _ Q ⟨W, K, m, s, ok, sh, rfl, h⟩ <;> rfl) (by decide) (fun cdv A outer s H E hr => w_can_lead g k_led_by k_need_mode k_need_shown k_need_watch_1 hr) (rd_can_lead (GG P K w fd_first_wrong) rfl rfl rfl rfl)
  have k_can_lead : Kn P w K mg base 7 "can_lead" (GG P K w fd_first_wrong).S_can_lead [] := ⟨⟨_, _, _, [], o_can_lead, (He.glo_ok X Gn (c.fact 48 (f := .glo "can_lead") rfl)), F_can_lead.kp, F_can_lead.bindsN (fun _ _ _ _ _ _ us hl => match us, hl with | [_, _, _], _ => rfl), .nil⟩, rfl⟩
  have o_pair_behind : FnOk P w K mg base CX0 3 _ fd_pair_behind ["old", "new", "pair", "kind"] (spD ⟨K, w⟩ (GG P K w fd_first_wrong).S_pair_behind) :=
    fn_d F_pair_behind sc_pair_behind (by rintro _ Q ⟨V, W, K, p, k, okv, ok, p1, p2, hk, rfl, h⟩ <;> rfl) (by decide) (fun cdv A outer s H E hr => w_pair_behind g p_moves hr) (rd_pair_behind (GG P K w fd_first_wrong) rfl)
  have k_pair_behind : Kn P w K mg base 3 "pair_behind" (GG P K w fd_first_wrong).S_pair_behind [] := ⟨⟨_, _, _, [], o_pair_behind, (He.glo_ok X Gn (c.fact 49 (f := .glo "pair_behind") rfl)), F_pair_behind.kp, F_pair_behind.bindsN (fun _ _ _ _ _ _ us hl => match us, hl with | [_, _, _, _], _ => rfl), .nil⟩, rfl⟩
  have o_pairs_known : FnOk P w K mg base CX0 4 _ fd_pairs_known ["old", "new", "pairs", "kind"] (spD ⟨K, w⟩ (GG P K w fd_first_wrong).S_pairs_known) :=
    fn_d F_pairs_known sc_pairs_known (by rintro _ Q ⟨V, W, K, ps, k, okv, ok, pp, hk, rfl, h⟩ <;> rfl) (by decide) (fun cdv A outer s H E hr => w_pairs_known g k_pair_behind hr) (rd_pairs_known (GG P K w fd_first_wrong) rfl)
  have k_pairs_known : Kn P w K mg base 4 "pairs_known" (GG P K w fd_first_wrong).S_pairs_known [] := ⟨⟨_, _, _, [], o_pairs_known, (He.glo_ok X Gn (c.fact 50 (f := .glo "pairs_known") rfl)), F_pairs_known.kp, F_pairs_known.bindsN (fun _ _ _ _ _ _ us hl => match us, hl with | [_, _, _, _], _ => rfl), .nil⟩, rfl⟩
  have o_pairs_next : FnOk P w K mg base CX0 4 _ fd_pairs_next ["old", "new", "pairs"] (spD ⟨K, w⟩ (GG P K w fd_first_wrong).S_pairs_next) :=
    fn_d F_pairs_next sc_pairs_next (by rintro _ Q ⟨V, W, K, ps, okv, ok, pp, ne, rfl, h⟩ <;> rfl) (by decide) (fun cdv A outer s H E hr => w_pairs_next g k_pair_behind p_kinds hr) (rd_pairs_next (GG P K w fd_first_wrong) rfl rfl)
  have k_pairs_next : Kn P w K mg base 4 "pairs_next" (GG P K w fd_first_wrong).S_pairs_next [] := ⟨⟨_, _, _, [], o_pairs_next, (He.glo_ok X Gn (c.fact 51 (f := .glo "pairs_next") rfl)), F_pairs_next.kp, F_pairs_next.bindsN (fun _ _ _ _ _ _ us hl => match us, hl with | [_, _, _], _ => rfl), .nil⟩, rfl⟩
  have o_pairs_reached : FnOk P w K mg base CX0 5 _ fd_pairs_reached ["old", "new", "pairs"] (spD ⟨K, w⟩ (GG P K w fd_first_wrong).S_pairs_reached) :=
    fn_d F_pairs_reached sc_pairs_reached (by rintro _ Q ⟨V, W, K, ps, okv, ok, pp, ne, rfl, h⟩ <;> rfl) (by decide) (fun cdv A outer s H E hr => w_pairs_reached g k_pairs_next hr) (rd_pairs_reached (GG P K w fd_first_wrong) rfl)
  have k_pairs_reached : Kn P w K mg base 5 "pairs_reached" (GG P K w fd_first_wrong).S_pairs_reached [] := ⟨⟨_, _, _, [], o_pairs_reached, (He.glo_ok X Gn (c.fact 52 (f := .glo "pairs_reached") rfl)), F_pairs_reached.kp, F_pairs_reached.bindsN (fun _ _ _ _ _ _ us hl => match us, hl with | [_, _, _], _ => rfl), .nil⟩, rfl⟩
  have o_both_behind : FnOk P w K mg base CX0 6 _ fd_both_behind ["old", "new", "pairs", "item", "mode"] (spD ⟨K, w⟩ (GG P K w fd_first_wrong).S_both_behind) :=
    fn_d F_both_behind sc_both_behind (by rintro _ Q ⟨V, W, K, m, ps, it, okv, ok, p, ne, hk, rfl, h⟩ <;> rfl) (by decide) (fun cdv A outer s H E hr => w_both_behind g k_pairs_known k_pairs_next k_pairs_reached hr) (rd_both_behind (GG P K w fd_first_wrong) rfl rfl rfl)
  have k_both_behind : Kn P w K mg base 6 "both_behind" (GG P K w fd_first_wrong).S_both_behind [] := ⟨⟨_, _, _, [], o_both_behind, (He.glo_ok X Gn (c.fact 53 (f := .glo "both_behind") rfl)), F_both_behind.kp, F_both_behind.bindsN (fun _ _ _ _ _ _ us hl => match us, hl with | [_, _, _, _, _], _ => rfl), .nil⟩, rfl⟩
  have o_need_told : FnOk P w K mg base CX0 3 _ fd_need_told ["told", "kept"] (spD ⟨K, w⟩ (GG P K w fd_first_wrong).S_need_told) :=
    fn_d F_need_told sc_need_told (by rintro _ Q ⟨V, W, K, okv, ok, rfl, h⟩ <;> rfl) (by decide) (fun cdv A outer s H E hr => w_need_told g k_need_watch p_kinds hr) (rd_need_told (GG P K w fd_first_wrong) rfl rfl)
  have k_need_told : Kn P w K mg base 3 "need_told" (GG P K w fd_first_wrong).S_need_told [] := ⟨⟨_, _, _, [], o_need_told, (He.glo_ok X Gn (c.fact 54 (f := .glo "need_told") rfl)), F_need_told.kp, F_need_told.bindsN (fun _ _ _ _ _ _ us hl => match us, hl with | [_, _], _ => rfl), .nil⟩, rfl⟩
  have o_both_by : FnOk P w K mg base CX0 7 _ fd_both_by ["told", "kept", "shown", "mode"] (spD ⟨K, w⟩ (GG P K w fd_first_wrong).S_both_by) :=
    fn_d F_both_by sc_both_by (by rintro _ Q ⟨V, W, K, m, s, okv, ok, sh, rfl, h⟩ <;> rfl) (by decide) (fun cdv A outer s H E hr => w_both_by g k_both_behind hr) (rd_both_by (GG P K w fd_first_wrong) rfl)
  have k_both_by : Kn P w K mg base 7 "both_by" (GG P K w fd_first_wrong).S_both_by [] := ⟨⟨_, _, _, [], o_both_by, (He.glo_ok X Gn (c.fact 55 (f := .glo "both_by") rfl)), F_both_by.kp, F_both_by.bindsN (fun _ _ _ _ _ _ us hl => match us, hl with | [_, _, _, _], _ => rfl), .nil⟩, rfl⟩
  have o_words_kept : FnOk P w K mg base CX0 3 _ fd_words_kept ["kept", "pairs"] (spD ⟨K, w⟩ (GG P K w fd_first_wrong).S_words_kept) :=
    fn_d F_words_kept sc_words_kept (by rintro _ Q ⟨V, W, K, ps, okv, ok, p, rfl, h⟩ <;> rfl) (by decide) (fun cdv A outer s H E hr => w_words_kept g p_words hr) (rd_words_kept (GG P K w fd_first_wrong) rfl)
  have k_words_kept : Kn P w K mg base 3 "words_kept" (GG P K w fd_first_wrong).S_words_kept [] := ⟨⟨_, _, _, [], o_words_kept, (He.glo_ok X Gn (c.fact 56 (f := .glo "words_kept") rfl)), F_words_kept.kp, F_words_kept.bindsN (fun _ _ _ _ _ _ us hl => match us, hl with | [_, _], _ => rfl), .nil⟩, rfl⟩
  have o_leak_by : FnOk P w K mg base CX0 8 _ fd_leak_by ["told", "kept", "shown", "mode"] (spD ⟨K, w⟩ (GG P K w fd_first_wrong).S_leak_by) :=
    fn_d F_leak_by sc_leak_by (by rintro _ Q ⟨V, W, K, m, s, okv, ok, sh, rfl, h⟩ <;> rfl) (by decide) (fun cdv A outer s H E hr => w_leak_by g k_both_by k_words_kept hr) (rd_leak_by (GG P K w fd_first_wrong) rfl rfl)
  have k_leak_by : Kn P w K mg base 8 "leak_by" (GG P K w fd_first_wrong).S_leak_by [] := ⟨⟨_, _, _, [], o_leak_by, (He.glo_ok X Gn (c.fact 57 (f := .glo "leak_by") rfl)), F_leak_by.kp, F_leak_by.bindsN (fun _ _ _ _ _ _ us hl => match us, hl with | [_, _, _, _], _ => rfl), .nil⟩, rfl⟩
  have o_need_told_shown : FnOk P w K mg base CX0 4 _ fd_need_told_shown ["told", "kept", "shown", "mode"] (spD ⟨K, w⟩ (GG P K w fd_first_wrong).S_need_told_shown) :=
    fn_d F_need_told_shown sc_need_told_shown (by rintro _ Q ⟨V, W, K, m, s, okv, ok, sh, rfl, h⟩ <;> rfl) (by decide) (fun cdv A outer s H E hr => w_need_told_shown g k_need_mode k_need_shown k_need_told hr) (rd_need_told_shown (GG P K w fd_first_wrong) rfl rfl rfl)
  have k_need_told_shown : Kn P w K mg base 4 "need_told_shown" (GG P K w fd_first_wrong).S_need_told_shown [] := ⟨⟨_, _, _, [], o_need_told_shown, (He.glo_ok X Gn (c.fact 58 (f := .glo "need_told_shown") rfl)), F_need_told_shown.kp, F_need_told_shown.bindsN (fun _ _ _ _ _ _ us hl => match us, hl with | [_, _, _, _], _ => rfl), .nil⟩, rfl⟩
  have o_both_lead : FnOk P w K mg base CX0 8 _ fd_both_lead ["told", "kept", "shown", "mode"] (spD ⟨K, w⟩ (GG P K w fd_first_wrong).S_both_lead) :=
    fn_d F_both_lead sc_both_lead (by rintro _ Q ⟨V, W, K, m, s, okv, ok, sh, rfl, h⟩ <;> rfl) (by decide) (fun cdv A outer s H E hr => w_both_lead g k_both_by k_need_told_shown hr) (rd_both_lead (GG P K w fd_first_wrong) rfl rfl)
  have k_both_lead : Kn P w K mg base 8 "both_lead" (GG P K w fd_first_wrong).S_both_lead [] := ⟨⟨_, _, _, [], o_both_lead, (He.glo_ok X Gn (c.fact 59 (f := .glo "both_lead") rfl)), F_both_lead.kp, F_both_lead.bindsN (fun _ _ _ _ _ _ us hl => match us, hl with | [_, _, _, _], _ => rfl), .nil⟩, rfl⟩
  have o_leak : FnOk P w K mg base CX0 9 _ fd_leak ["told", "kept", "shown", "mode"] (spD ⟨K, w⟩ (GG P K w fd_first_wrong).S_leak) :=
    fn_d F_leak sc_leak (by rintro _ Q ⟨V, W, K, m, s, okv, ok, sh, rfl, h⟩ <;> rfl) (by decide) (fun cdv A outer s H E hr => w_leak g k_leak_by k_need_told_shown hr) (rd_leak (GG P K w fd_first_wrong) rfl rfl)
  have k_leak : Kn P w K mg base 9 "leak" (GG P K w fd_first_wrong).S_leak [] := ⟨⟨_, _, _, [], o_leak, (He.glo_ok X Gn (c.fact 60 (f := .glo "leak") rfl)), F_leak.kp, F_leak.bindsN (fun _ _ _ _ _ _ us hl => match us, hl with | [_, _, _, _], _ => rfl), .nil⟩, rfl⟩
  have o_need_weights : FnOk P w K mg base CX0 3 _ fd_need_weights ["watch", "weights"] (spD ⟨K, w⟩ (GG P K w fd_first_wrong).S_need_weights) :=
    fn_d F_need_weights sc_need_weights (by rintro _ Q ⟨W, K, ws, ok, wt, rfl, h⟩ <;> rfl) (by decide) (fun cdv A outer s H E hr => w_need_weights g k_is_between k_is_list p_kinds hr) (rd_need_weights (GG P K w fd_first_wrong) rfl rfl rfl)
  have k_need_weights : Kn P w K mg base 3 "need_weights" (GG P K w fd_first_wrong).S_need_weights [] := ⟨⟨_, _, _, [], o_need_weights, (He.glo_ok X Gn (c.fact 61 (f := .glo "need_weights") rfl)), F_need_weights.kp, F_need_weights.bindsN (fun _ _ _ _ _ _ us hl => match us, hl with | [_, _], _ => rfl), .nil⟩, rfl⟩
  have o_divisor : FnOk P w K mg base CX0 1 _ fd_divisor ["one", "other"] (spD ⟨K, w⟩ (GG P K w fd_first_wrong).S_divisor) :=
    fn_d F_divisor sc_divisor (by rintro _ Q ⟨a, b, rfl, h⟩ <;> rfl) (by decide) (fun cdv A outer s H E hr => w_divisor g  hr) (rd_divisor (GG P K w fd_first_wrong))
  have k_divisor : Kn P w K mg base 1 "divisor" (GG P K w fd_first_wrong).S_divisor [] := ⟨⟨_, _, _, [], o_divisor, (He.glo_ok X Gn (c.fact 62 (f := .glo "divisor") rfl)), F_divisor.kp, F_divisor.bindsN (fun _ _ _ _ _ _ us hl => match us, hl with | [_, _], _ => rfl), .nil⟩, rfl⟩
  have o_power : FnOk P w K mg base CX0 1 _ fd_power ["base", "times"] (spD ⟨K, w⟩ (GG P K w fd_first_wrong).S_power) :=
    fn_d F_power sc_power (by rintro _ Q ⟨a, n, rfl, ha, hn, h⟩ <;> rfl) (by decide) (fun cdv A outer s H E hr => w_power g  hr) (rd_power (GG P K w fd_first_wrong))
  have k_power : Kn P w K mg base 1 "power" (GG P K w fd_first_wrong).S_power [] := ⟨⟨_, _, _, [], o_power, (He.glo_ok X Gn (c.fact 63 (f := .glo "power") rfl)), F_power.kp, F_power.bindsN (fun _ _ _ _ _ _ us hl => match us, hl with | [_, _], _ => rfl), .nil⟩, rfl⟩
  have o_fraction_of : FnOk P w K mg base CX0 2 _ fd_fraction_of ["top", "bottom"] (spD ⟨K, w⟩ (GG P K w fd_first_wrong).S_fraction_of) :=
    fn_d F_fraction_of sc_fraction_of (by rintro _ Q ⟨a, b, rfl, b0, hb, h⟩ <;> rfl) (by decide) (fun cdv A outer s H E hr => w_fraction_of g k_divisor hr) (rd_fraction_of (GG P K w fd_first_wrong) rfl)
  have k_fraction_of : Kn P w K mg base 2 "fraction_of" (GG P K w fd_first_wrong).S_fraction_of [] := ⟨⟨_, _, _, [], o_fraction_of, (He.glo_ok X Gn (c.fact 64 (f := .glo "fraction_of") rfl)), F_fraction_of.kp, F_fraction_of.bindsN (fun _ _ _ _ _ _ us hl => match us, hl with | [_, _], _ => rfl), .nil⟩, rfl⟩
  have o_heavier_by : FnOk P w K mg base CX0 3 _ fd_heavier_by ["watch", "found", "item", "weights"] (spD ⟨K, w⟩ (GG P K w fd_first_wrong).S_heavier_by) :=
    fn_d F_heavier_by sc_heavier_by (by rintro _ Q ⟨W, K, ns, f, it, ws, ok, wt, nd, lt, fz, fb, hi, rfl, h⟩ <;> rfl) (by decide) (fun cdv A outer s H E hr => w_heavier_by g p_kinds p_moves hr) (rd_heavier_by (GG P K w fd_first_wrong) rfl rfl)
  have k_heavier_by : Kn P w K mg base 3 "heavier_by" (GG P K w fd_first_wrong).S_heavier_by [] := ⟨⟨_, _, _, [], o_heavier_by, (He.glo_ok X Gn (c.fact 65 (f := .glo "heavier_by") rfl)), F_heavier_by.kp, F_heavier_by.bindsN (fun _ _ _ _ _ _ us hl => match us, hl with | [_, _, _, _], _ => rfl), .nil⟩, rfl⟩
  have o_numbers_by : FnOk P w K mg base CX0 4 _ fd_numbers_by ["watch", "shown", "weights"] (spD ⟨K, w⟩ (GG P K w fd_first_wrong).S_numbers_by) :=
    fn_d F_numbers_by sc_numbers_by (by rintro _ Q ⟨W, K, s, ws, ok, wt, sh, rfl, h⟩ <;> rfl) (by decide) (fun cdv A outer s H E hr => w_numbers_by g k_heavier_by k_power hr) (rd_numbers_by (GG P K w fd_first_wrong) rfl rfl)
  have k_numbers_by : Kn P w K mg base 4 "numbers_by" (GG P K w fd_first_wrong).S_numbers_by [] := ⟨⟨_, _, _, [], o_numbers_by, (He.glo_ok X Gn (c.fact 66 (f := .glo "numbers_by") rfl)), F_numbers_by.kp, F_numbers_by.bindsN (fun _ _ _ _ _ _ us hl => match us, hl with | [_, _, _], _ => rfl), .nil⟩, rfl⟩
  have o_words_by : FnOk P w K mg base CX0 5 _ fd_words_by ["watch", "shown", "weights"] (spD ⟨K, w⟩ (GG P K w fd_first_wrong).S_words_by) :=
    fn_d F_words_by sc_words_by (by rintro _ Q ⟨W, K, s, ws, ok, wt, sh, rfl, h⟩ <;> rfl) (by decide) (fun cdv A outer s H E hr => w_words_by g k_numbers_by p_words hr) (rd_words_by (GG P K w fd_first_wrong) rfl rfl)
  have k_words_by : Kn P w K mg base 5 "words_by" (GG P K w fd_first_wrong).S_words_by [] := ⟨⟨_, _, _, [], o_words_by, (He.glo_ok X Gn (c.fact 67 (f := .glo "words_by") rfl)), F_words_by.kp, F_words_by.bindsN (fun _ _ _ _ _ _ us hl => match us, hl with | [_, _, _], _ => rfl), .nil⟩, rfl⟩
  have o_odds_by : FnOk P w K mg base CX0 6 _ fd_odds_by ["watch", "shown", "weights"] (spD ⟨K, w⟩ (GG P K w fd_first_wrong).S_odds_by) :=
    fn_d F_odds_by sc_odds_by (by rintro _ Q ⟨W, K, s, ws, ok, wt, sh, rfl, h⟩ <;> rfl) (by decide) (fun cdv A outer s H E hr => w_odds_by g k_fraction_of k_words_by hr) (rd_odds_by (GG P K w fd_first_wrong) rfl rfl)
  have k_odds_by : Kn P w K mg base 6 "odds_by" (GG P K w fd_first_wrong).S_odds_by [] := ⟨⟨_, _, _, [], o_odds_by, (He.glo_ok X Gn (c.fact 68 (f := .glo "odds_by") rfl)), F_odds_by.kp, F_odds_by.bindsN (fun _ _ _ _ _ _ us hl => match us, hl with | [_, _, _], _ => rfl), .nil⟩, rfl⟩
  have o_need_odds : FnOk P w K mg base CX0 4 _ fd_need_odds ["watch", "shown", "weights"] (spD ⟨K, w⟩ (GG P K w fd_first_wrong).S_need_odds) :=
    fn_d F_need_odds sc_need_odds (by rintro _ Q ⟨W, K, s, ws, ok, sh, wt, rfl, h⟩ <;> rfl) (by decide) (fun cdv A outer s H E hr => w_need_odds g k_need_shown k_need_watch_1 k_need_weights hr) (rd_need_odds (GG P K w fd_first_wrong) rfl rfl rfl)
  have k_need_odds : Kn P w K mg base 4 "need_odds" (GG P K w fd_first_wrong).S_need_odds [] := ⟨⟨_, _, _, [], o_need_odds, (He.glo_ok X Gn (c.fact 69 (f := .glo "need_odds") rfl)), F_need_odds.kp, F_need_odds.bindsN (fun _ _ _ _ _ _ us hl => match us, hl with | [_, _, _], _ => rfl), .nil⟩, rfl⟩
  have o_odds : FnOk P w K mg base CX0 7 _ fd_odds ["watch", "shown", "weights"] (spD ⟨K, w⟩ (GG P K w fd_first_wrong).S_odds) :=
    fn_d F_odds sc_odds (by rintro _ Q ⟨W, K, s, ws, ok, wt, sh, rfl, h⟩ <;> rfl) (by decide) (fun cdv A outer s H E hr => w_odds g k_need_odds k_odds_by hr) (rd_odds (GG P K w fd_first_wrong) rfl rfl)
  have k_odds : Kn P w K mg base 7 "odds" (GG P K w fd_first_wrong).S_odds [] := ⟨⟨_, _, _, [], o_odds, (He.glo_ok X Gn (c.fact 70 (f := .glo "odds") rfl)), F_odds.kp, F_odds.bindsN (fun _ _ _ _ _ _ us hl => match us, hl with | [_, _, _], _ => rfl), .nil⟩, rfl⟩
  have o_greatest_of : FnOk P w K mg base CX0 1 _ fd_greatest_of ["words"] (spD ⟨K, w⟩ (GG P K w fd_first_wrong).S_greatest_of) :=
    fn_d F_greatest_of sc_greatest_of (by rintro _ Q ⟨ns, f, rfl, so, ne, hl, h⟩ <;> rfl) (by decide) (fun cdv A outer s H E hr => w_greatest_of g  hr) (rd_greatest_of (GG P K w fd_first_wrong))
  have k_greatest_of : Kn P w K mg base 1 "greatest_of" (GG P K w fd_first_wrong).S_greatest_of [] := ⟨⟨_, _, _, [], o_greatest_of, (He.glo_ok X Gn (c.fact 71 (f := .glo "greatest_of") rfl)), F_greatest_of.kp, F_greatest_of.bindsN (fun _ _ _ _ _ _ us hl => match us, hl with | [_], _ => rfl), .nil⟩, rfl⟩
  have o_with_item : FnOk P w K mg base CX0 1 _ fd_with_item ["shown", "place", "kind"] (spD ⟨K, w⟩ (GG P K w fd_first_wrong).S_with_item) :=
    fn_d F_with_item sc_with_item (by rintro _ Q ⟨s, p, k, rfl, hl, h⟩ <;> rfl) (by decide) (fun cdv A outer s H E hr => w_with_item g  hr) (rd_with_item (GG P K w fd_first_wrong))
  have k_with_item : Kn P w K mg base 1 "with_item" (GG P K w fd_first_wrong).S_with_item [] := ⟨⟨_, _, _, [], o_with_item, (He.glo_ok X Gn (c.fact 72 (f := .glo "with_item") rfl)), F_with_item.kp, F_with_item.bindsN (fun _ _ _ _ _ _ us hl => match us, hl with | [_, _, _], _ => rfl), .nil⟩, rfl⟩
  have o_guessed_by : FnOk P w K mg base CX0 6 _ fd_guessed_by ["watch", "shown", "weights", "place"] (spD ⟨K, w⟩ (GG P K w fd_first_wrong).S_guessed_by) :=
    fn_d F_guessed_by sc_guessed_by (by rintro _ Q ⟨W, K, s, ws, p, ok, wt, sh, hp, rfl, h⟩ <;> rfl) (by decide) (fun cdv A outer s H E hr => w_guessed_by g k_fraction_of k_greatest_of k_with_item k_words_by hr) (rd_guessed_by (GG P K w fd_first_wrong) rfl rfl rfl rfl)
  have k_guessed_by : Kn P w K mg base 6 "guessed_by" (GG P K w fd_first_wrong).S_guessed_by [] := ⟨⟨_, _, _, [], o_guessed_by, (He.glo_ok X Gn (c.fact 73 (f := .glo "guessed_by") rfl)), F_guessed_by.kp, F_guessed_by.bindsN (fun _ _ _ _ _ _ us hl => match us, hl with | [_, _, _, _], _ => rfl), .nil⟩, rfl⟩
  have o_is_above : FnOk P w K mg base CX0 1 _ fd_is_above ["one", "other"] (spD ⟨K, w⟩ (GG P K w fd_first_wrong).S_is_above) :=
    fn_d F_is_above sc_is_above (by rintro _ Q ⟨a, b, c, d, rfl, ha, hb, hc, hd, h⟩ <;> rfl) (by decide) (fun cdv A outer s H E hr => w_is_above g  hr) (rd_is_above (GG P K w fd_first_wrong))
  have k_is_above : Kn P w K mg base 1 "is_above" (GG P K w fd_first_wrong).S_is_above [] := ⟨⟨_, _, _, [], o_is_above, (He.glo_ok X Gn (c.fact 74 (f := .glo "is_above") rfl)), F_is_above.kp, F_is_above.bindsN (fun _ _ _ _ _ _ us hl => match us, hl with | [_, _], _ => rfl), .nil⟩, rfl⟩
  have o_most_telling : FnOk P w K mg base CX0 7 _ fd_most_telling ["watch", "shown", "weights"] (spD ⟨K, w⟩ (GG P K w fd_first_wrong).S_most_telling) :=
    fn_d F_most_telling sc_most_telling (by rintro _ Q ⟨W, K, s, ws, ok, wt, sh, rfl, h0, h⟩ <;> rfl) (by decide) (fun cdv A outer s H E hr => w_most_telling g k_guessed_by k_is_above k_need_odds hr) (rd_most_telling (GG P K w fd_first_wrong) rfl rfl rfl)
  have k_most_telling : Kn P w K mg base 7 "most_telling" (GG P K w fd_first_wrong).S_most_telling [] := ⟨⟨_, _, _, [], o_most_telling, (He.glo_ok X Gn (c.fact 75 (f := .glo "most_telling") rfl)), F_most_telling.kp, F_most_telling.bindsN (fun _ _ _ _ _ _ us hl => match us, hl with | [_, _, _], _ => rfl), .nil⟩, rfl⟩
  have o__law_begun : FnOk P w K mg base CX0 1 _ fd__law_begun ["script"] (spD ⟨K, w⟩ (GG P K w fd_first_wrong).S__law_begun) :=
    fn_d F__law_begun sc__law_begun (by rintro _ Q ⟨ns, rfl, hl, h⟩ <;> rfl) (by decide) (fun cdv A outer s H E hr => w__law_begun g  hr) (rd__law_begun (GG P K w fd_first_wrong))
  have k__law_begun : Kn P w K mg base 1 "_law_begun" (GG P K w fd_first_wrong).S__law_begun [] := ⟨⟨_, _, _, [], o__law_begun, (He.glo_ok X Gn (c.fact 76 (f := .glo "_law_begun") rfl)), F__law_begun.kp, F__law_begun.bindsN (fun _ _ _ _ _ _ us hl => match us, hl with | [_], _ => rfl), .nil⟩, rfl⟩
  have o__law_blend : FnOk P w K mg base CX0 1 _ fd__law_blend ["tape"] (spM ⟨K, w⟩ (GG P K w fd_first_wrong).S__law_blend) :=
    fn_m F__law_blend sc__law_blend (by rintro x0 _ Q ⟨l, c, cs, r, t, rfl, rfl, _⟩; rfl) (by decide) (fun cdv A outer s H E hr => w__law_blend g  hr) (rd__law_blend (GG P K w fd_first_wrong))
  have k__law_blend : KnM P w K mg base 1 "_law_blend" (GG P K w fd_first_wrong).S__law_blend := ⟨⟨_, _, _, [], o__law_blend, (He.glo_ok X Gn (c.fact 77 (f := .glo "_law_blend") rfl)), F__law_blend.kp, F__law_blend.bindsN (fun _ _ _ _ _ _ us hl => match us, hl with | [_], _ => rfl), .nil⟩⟩
  have o__law_draw : FnOk P w K mg base CX0 2 _ fd__law_draw ["tape", "size"] (spD ⟨K, w⟩ (GG P K w fd_first_wrong).S__law_draw) :=
    fn_tape F__law_draw sc__law_draw (by rintro ds Q ⟨n, rfl, _⟩; rfl) (by decide) (by rintro ds Q ⟨n, rfl, _⟩; exact ⟨_, rfl, rfl⟩) (fun cdv A outer s H E hr => w__law_draw g k__law_blend hr) (rd__law_draw (GG P K w fd_first_wrong) rfl)
  have k__law_draw : Kn P w K mg base 2 "_law_draw" (GG P K w fd_first_wrong).S__law_draw [] := ⟨⟨_, _, _, [], o__law_draw, (He.glo_ok X Gn (c.fact 78 (f := .glo "_law_draw") rfl)), F__law_draw.kp, F__law_draw.bindsN (fun _ _ _ _ _ _ us hl => match us, hl with | [_, _], _ => rfl), .nil⟩, rfl⟩
  have o__law_pick : FnOk P w K mg base CX0 3 _ fd__law_pick ["tape", "several"] (spD ⟨K, w⟩ (GG P K w fd_first_wrong).S__law_pick) :=
    fn_d F__law_pick sc__law_pick (by rintro _ Q ⟨xs, rfl, h0, hl, h⟩ <;> rfl) (by decide) (fun cdv A outer s H E hr => w__law_pick g k__law_draw hr) (rd__law_pick (GG P K w fd_first_wrong) rfl)
  have k__law_pick : Kn P w K mg base 3 "_law_pick" (GG P K w fd_first_wrong).S__law_pick [] := ⟨⟨_, _, _, [], o__law_pick, (He.glo_ok X Gn (c.fact 79 (f := .glo "_law_pick") rfl)), F__law_pick.kp, F__law_pick.bindsN (fun _ _ _ _ _ _ us hl => match us, hl with | [_, _], _ => rfl), .nil⟩, rfl⟩
  have o__law_watch : FnOk P w K mg base CX0 3 _ fd__law_watch ["tape", "places", "kinds", "words"] (spD ⟨K, w⟩ (GG P K w fd_first_wrong).S__law_watch) :=
    fn_d F__law_watch sc__law_watch (by rintro _ Q ⟨n, K, w, rfl, n1, n6, k1, k4, w1, w4, h⟩ <;> rfl) (by decide) (fun cdv A outer s H E hr => w__law_watch g k__law_draw hr) (rd__law_watch (GG P K w fd_first_wrong) rfl)
  have k__law_watch : Kn P w K mg base 3 "_law_watch" (GG P K w fd_first_wrong).S__law_watch [] := ⟨⟨_, _, _, [], o__law_watch, (He.glo_ok X Gn (c.fact 80 (f := .glo "_law_watch") rfl)), F__law_watch.kp, F__law_watch.bindsN (fun _ _ _ _ _ _ us hl => match us, hl with | [_, _, _, _], _ => rfl), .nil⟩, rfl⟩
  have o__law_made : FnOk P w K mg base CX0 10 _ fd__law_made ["watch"] (spD ⟨K, w⟩ (GG P K w fd_first_wrong).S__law_made) :=
    fn_d F__law_made sc__law_made (by rintro _ Q ⟨W, K, ok, rfl, h⟩ <;> rfl) (by decide) (fun cdv A outer s H E hr => w__law_made g k_Watch hr) (rd__law_made (GG P K w fd_first_wrong) rfl)
  have k__law_made : Kn P w K mg base 10 "_law_made" (GG P K w fd_first_wrong).S__law_made [] := ⟨⟨_, _, _, [], o__law_made, (He.glo_ok X Gn (c.fact 81 (f := .glo "_law_made") rfl)), F__law_made.kp, F__law_made.bindsN (fun _ _ _ _ _ _ us hl => match us, hl with | [_], _ => rfl), .nil⟩, rfl⟩
  have o__law_row : FnOk P w K mg base CX0 3 _ fd__law_row ["tape", "watch", "most"] (spD ⟨K, w⟩ (GG P K w fd_first_wrong).S__law_row) :=
    fn_d F__law_row sc__law_row (by rintro _ Q ⟨W, K, n, ok, hn, rfl, h⟩ <;> rfl) (by decide) (fun cdv A outer s H E hr => w__law_row g k__law_draw hr) (rd__law_row (GG P K w fd_first_wrong) rfl)
  have k__law_row : Kn P w K mg base 3 "_law_row" (GG P K w fd_first_wrong).S__law_row [] := ⟨⟨_, _, _, [], o__law_row, (He.glo_ok X Gn (c.fact 82 (f := .glo "_law_row") rfl)), F__law_row.kp, F__law_row.bindsN (fun _ _ _ _ _ _ us hl => match us, hl with | [_, _, _], _ => rfl), .nil⟩, rfl⟩
  have o__law_place : FnOk P w K mg base CX0 1 _ fd__law_place ["watch", "row"] (spD ⟨K, w⟩ (GG P K w fd_first_wrong).S__law_place) :=
    fn_d F__law_place sc__law_place (by rintro _ Q ⟨W, K, row, ok, hr, rfl, h⟩ <;> rfl) (by decide) (fun cdv A outer s H E hr => w__law_place g  hr) (rd__law_place (GG P K w fd_first_wrong))
  have k__law_place : Kn P w K mg base 1 "_law_place" (GG P K w fd_first_wrong).S__law_place [] := ⟨⟨_, _, _, [], o__law_place, (He.glo_ok X Gn (c.fact 83 (f := .glo "_law_place") rfl)), F__law_place.kp, F__law_place.bindsN (fun _ _ _ _ _ _ us hl => match us, hl with | [_, _], _ => rfl), .nil⟩, rfl⟩
  have o__law_weights : FnOk P w K mg base CX0 4 _ fd__law_weights ["tape", "kinds"] (spD ⟨K, w⟩ (GG P K w fd_first_wrong).S__law_weights) :=
    fn_d F__law_weights sc__law_weights (by rintro _ Q ⟨K, hK, rfl, h⟩ <;> rfl) (by decide) (fun cdv A outer s H E hr => w__law_weights g k__law_draw k__law_pick hr) (rd__law_weights (GG P K w fd_first_wrong) rfl rfl)
  have k__law_weights : Kn P w K mg base 4 "_law_weights" (GG P K w fd_first_wrong).S__law_weights [] := ⟨⟨_, _, _, [], o__law_weights, (He.glo_ok X Gn (c.fact 84 (f := .glo "_law_weights") rfl)), F__law_weights.kp, F__law_weights.bindsN (fun _ _ _ _ _ _ us hl => match us, hl with | [_, _], _ => rfl), .nil⟩, rfl⟩
  have o_law : FnOk P w K mg base CX0 11 _ fd_law ["script"] (spD ⟨K, w⟩ S_law) :=
    fn_d F_law sc_law (by rintro _ Q ⟨ns, rfl, hl, h⟩ <;> rfl) (by decide) (fun cdv A outer s H E hr => w_law g k__law_begun k__law_draw k__law_made k__law_place k__law_row k__law_watch k__law_weights k_both_lead k_can_lead k_leak k_most_telling k_odds hr) (rd_law (GG P K w fd_first_wrong) ⟨rfl, rfl, rfl, rfl, rfl, rfl, rfl, rfl, rfl, rfl, rfl, rfl⟩)
  exact ⟨fd_law, F_law, o_law⟩
end
end K33

namespace K33
open PySem PySem.Spec PyProof.Rows L2 Dc
def others0 : List Str := ["WatchError", "PartError", "ItemError", "NoWatch", "BadMode", "BadMoves", "BadWords", "BadShown", "BadWeights", "is_number", "is_between", "is_list", "COUNTED", "LOST", "mode_right", "need_mode", "MOST_EVENTS", "MOST_KINDS", "MOST_WORD", "first_wrong"]
def others1 : List Str := ["is_word", "MOST_PLACES", "is_line", "need_moves", "need_words", "Watch", "need_watch", "need_shown", "BEGIN", "known_by", "next_by", "reached_by", "unknown_by", "behind_by", "led_by", "can_lead", "pair_behind", "pairs_known", "pairs_next", "pairs_reached"]
def others2 : List Str := ["both_behind", "BOTH_BEGIN", "need_told", "both_by", "words_kept", "leak_by", "need_told_shown", "both_lead", "leak", "MOST_PRICE", "need_weights", "divisor", "power", "fraction_of", "heavier_by", "numbers_by", "words_by", "odds_by", "need_odds", "odds"]
def others3 : List Str := ["greatest_of", "with_item", "guessed_by", "is_above", "most_telling", "_law_begun", "_law_blend", "_law_draw", "_law_pick", "_law_watch", "_law_made", "_law_row", "_law_place", "_law_weights"]
def others : List Str := others0 ++ others1 ++ others2 ++ others3
abbrev Rw : PySem.W.OpenRow := PySem.W.OpenLaw.row PySem.Challenge.rw_whytold_k33_whole_leaks_beside_odds
abbrev hk : PySem.W.Hook := hookZ 6 allFacts allDefs tabDefs exB
theorem run (w : World) : HandSHeadRun.RunEq Rw (PySem.W.view Rw.prog [87]) hk (obZ 6 allFacts allDefs tabDefs exB) 5000 others w := by
  intro os
  kernel_rfl
end K33

namespace K33
open PySem PySem.Spec PyProof.Rows L2 Dc
/-! the law at the script -/
theorem one_sub {H : Hp} {a : Addr} {o : HO} (e : H a = some o) (nt : NT o) : Sub (fun b => if b = a then some o else none) H := fun b u hb => by
  by_cases z : b = a
  · subst z
    have e2 : (if b = b then some o else none) = some u := hb
    rw [if_pos rfl] at e2
    cases e2
    exact .inl ⟨e, nt⟩
  · have e2 : (if b = a then some o else none) = some u := hb
    rw [if_neg z] at e2
    cases e2
theorem sqL_sub {K : PySem.W.Frag} {H : Hp} {a : Addr} {xs : List V} (h : SqL K H a xs) : ∃ F : Hp, Sub F H ∧ SqL K F a xs := by
  rcases h with (e | ⟨o, e⟩) | e
  · exact ⟨_, one_sub e (fun _ q => by cases q), .inl (.inl (if_pos rfl))⟩
  · exact ⟨_, one_sub e (fun _ q => by cases q), .inl (.inr ⟨o, if_pos rfl⟩)⟩
  · exact ⟨fun _ => none, fun b o hb => (by cases hb), .inr e⟩
theorem tabs_nil {t : Addr} {q : Str} {H : Hp} (h : H t = some (.tbl #[])) : LamX.Tabs [(t, q)] H := fun p hp => by
  simp only [List.mem_singleton] at hp
  subst hp
  refine ⟨#[], h, ?_, fun pos cv e => ?_⟩
  · trivial
  · cases e
theorem at_law {w : World} {mg : Str → Option Value} {fa : Addr} {h : Heap} {K : PySem.W.Frag} (X : K.In h) (G : h.Ns mainGlobals mg) (hm : mg ("law" : Str) = some (.ref fa)) (s : Say allFacts allDefs tabDefs exB h K) :
    LamX.LawAtS PySem.Challenge.rw_whytold_k33_whole_leaks_beside_odds w K CX0 11 63 "script" mg fa h := by
  letI : TabsT := ⟨[((He.cT K ("need_moves", none)).2, lamQ)]⟩
  have i : (("need_moves", none) : He.Defn) ∈ tabDefs := List.mem_cons_self ..
  have e := hm.symm.trans (He.glo_ok X G (s.d.fact 85 (f := .glo "law") rfl))
  cases e
  have cd : ∀ base : Heap, K.In base → PySem.W.CodeHd base (He.cT K ("need_moves", none)).1 (He.cT K ("need_moves", none)).2 := fun base Y => PySem.W.codeHd_of_K Y (s.hd _ i)
  have tabIn : ((He.cT K ("need_moves", none)).2, lamQ) ∈ TabsT.T := List.mem_cons_self ..
  have tabU : ∀ p ∈ TabsT.T, p.1 = (He.cT K ("need_moves", none)).2 → p.2 = lamQ := fun p hp _ => by
    rw [List.mem_singleton.mp (show p ∈ [((He.cT K ("need_moves", none)).2, lamQ)] from hp)]
  obtain ⟨fd, F⟩ := s.d.def_ 59 (d := a_law) rfl
  refine ⟨fd, [He.cT K ("need_moves", none)], spD ⟨K, w⟩ S_law, fun p hp => ?_, fun p hp => ?_, fun p hp => ?_, ?_, fun H a ns hl _ hT hS => ?_, fun base Y Gb TB => ?_⟩
  · rw [List.mem_singleton.mp hp]; exact s.nil _ i
  · rw [List.mem_singleton.mp hp]; exact s.out _ i
  · rw [List.mem_singleton.mp hp]; exact cd h X
  · exact fun s u => FunD.bindsA (ps := ["script"]) F (fun _ _ _ _ _ _ us hl => match us, hl with | [_], _ => rfl) s [u] rfl
  · obtain ⟨F0, sb, q⟩ := sqL_sub hS
    refine ⟨F0, [.lst (ns.map D.int)], fun x => x = .bl true, tabs_nil (hT _ (List.mem_cons_self ..)), sb, .one ⟨a, ns.map V.int, rfl, q, ?_, reps_of_ints ns⟩, ⟨ns, rfl, hl, rfl⟩, fun x v F' H' e _ r => ?_⟩
    · rw [sizeLine_eq, List.length_map]; omega
    · subst e; exact r
  · obtain ⟨fd2, F2, o⟩ := law_ok (P := PySem.Challenge.rw_whytold_k33_whole_leaks_beside_odds.prog) (w := w) X G s.d s.more (TB _ (List.mem_cons_self ..)) tabIn tabU
    have ef : fd = fd2 := by
      obtain ⟨_, _, _, _, _, _, _, _, _, _, _, l1, _⟩ := F.ex
      obtain ⟨_, _, _, _, _, _, _, _, _, _, _, l2, _⟩ := F2.ex
      have l3 := l1.symm.trans l2
      have l4 := congrArg Obj.data (Option.some.inj l3)
      exact Data.func.inj l4
    rw [ef]
    exact o
end K33
open PySem PySem.W PySem.Calls PyProof.Rows
theorem PySem.Challenge.cw_whytold_k33_whole_leaks_beside_odds_holds : PySem.Challenge.rw_whytold_k33_whole_leaks_beside_odds.Holds := by
  w_on; o_law
  refine HandSHeadRun.head_any (r := OpenLaw.row PySem.Challenge.rw_whytold_k33_whole_leaks_beside_odds) (q := view (OpenLaw.row PySem.Challenge.rw_whytold_k33_whole_leaks_beside_odds).prog [87]) (H := K33.hk) (ob := Dc.obZ 6 K33.allFacts K33.allDefs K33.tabDefs K33.exB) (M := 5000) (loose := K33.others) (d := HandSHeadRun.topDef (OpenLaw.row PySem.Challenge.rw_whytold_k33_whole_leaks_beside_odds).prog 87) (kwd := []) Dc.obZ_eq
    (by kernel_rfl) (fun s => by kernel_rfl) K33.run (by kernel_rfl) (by kernel_rfl) (by kernel_rfl) (by rfl) (by first | assumption | decide +kernel) (by decide +kernel) ⟨rfl, rfl, rfl, rfl, rfl, by decide +kernel⟩ ?hw ?hc
  case hw => w_witness2
  case hc =>
    refine LamX.walk_ofTsE (l := PySem.Challenge.rw_whytold_k33_whole_leaks_beside_odds) (n := 63) (k := 11) (x := "script") (CX := fun _ => L2.CX0) rfl (by decide) (by kernel_rfl) ⟨rfl, by decide, by decide⟩ ?F (fun _ _ _ _ _ z => z)
    intro w mg fa h Y G hmg0
    obtain ⟨K, KX, c⟩ := Y
    have hmg : mg ("law" : PySem.Str) = some (.ref fa) := by
      have e : (HandSHeadRun.topDef (OpenLaw.row PySem.Challenge.rw_whytold_k33_whole_leaks_beside_odds).prog 87).name = ("law" : PySem.Str) := by kernel_rfl
      rw [← e]
      exact hmg0
    exact ⟨K, KX, K33.at_law KX G hmg c⟩
