import PyProof.Rows.All
import Wide.All
import OpenK.AllK
import Wide.FinOn
import HandS.ForMost
import HandS.Lambda
import HandS.Exc
import HandS.WordsExc
import HandS.Wide
import HandS.TupAny
import HandS.IsInst
import HandS.Style
import HandS.TupLen
import HandS.Codes
import PyProof.Rows.IntBool
import PyProof.StrOps2
import PyProof.NeKinds
import HandS.EndBits
import HandS.More
import HandS.RaiseMore
import PyProof.CallStr
import KE.IntBitsLaws
import HandS.Dict
import HandS.DictComp
import PyProof.Draws
import PyProof.EnumMake
import PyProof.ReprRoads
import PyProof.ReprBulk
import PyProof.FitsInt
import HandS.Defaults
import HandS.MakeKwOnly
import KE.KDictWalk
import KE.KDictItemsList
import KE.SortData
import HandS.DictTup
import KE.SortKeyHeap
import KE.KSortKey
import HandS.SortKw
import KE.LtData
import HandS.Iter
import HandS.SetKeys
import HandS.ForExc
import HandS.ExcIs
import HandS.TryOnly
import HandS.Zip
import PyProof.ListStr
import HandS.TupMul
import HandS.Deep
import PySem.Challenge.RW_asshown_k47_keys_at_a_page
set_option Elab.async false
set_option linter.all false
set_option autoImplicit false
set_option maxRecDepth 100000
set_option maxHeartbeats 4000000
namespace Dl
open PySem PySem.Spec PyProof.Rows L2
/-- a datum: lists and dicts that are never changed are data, what changes stands in the store (ref) -/
inductive D where
  | non | bl (b : Bool) | int (i : Int) | str (x : Str)
  | tup (xs : List D) | lst (xs : List D) | frl (xs : List D)
  | dk (ks : List Key) (xs : List D) | dt (ks : List (List Key)) (xs : List D)
  | ref (l : Nat)
  | exc (x : Str) (ks : List Str) (xs : List D)
/-- what stands in the store -/
inductive MO where
  | lst (xs : List D) | dk (ks : List Key) (xs : List D) | dt (ks : List (List Key)) (xs : List D)
  | ins (c : Str) (fs : List (Str × D))
  | fdk (ks : List Key) (xs : List D) | fdt (ks : List (List Key)) (xs : List D)
/-- a locked dict is not to be changed -/
def MO.live : MO → Bool
  | .fdk _ _ => false
  | .fdt _ _ => false
  | _ => true
abbrev Sto := List (Option MO)
abbrev En := List (Option D)
/-- a list that is read alone: the script -/
def SqF (K : PySem.W.Frag) (F : Hp) (a : Addr) (xs : List V) : Prop :=
  (∃ o, F a = some (.frz o (.lst xs))) ∨
    ∃ (o : Obj) (its : Array Value) (n : Nat), K.lookup a = some o ∧ o.cls = .type "list" ∧ o.dict = none ∧ o.data = .seq its n ∧ its.size ≤ sizeLine ∧ Vals xs its.toList
theorem SqF.seq {K : PySem.W.Frag} {F : Hp} {a : Addr} {xs : List V} (h : SqF K F a xs) : SqL K F a xs := by
  rcases h with ⟨o, h⟩ | h
  · exact .inl (.inr ⟨o, h⟩)
  · exact .inr h
theorem SqF.same {K : PySem.W.Frag} {F F' : Hp} {a : Addr} {xs : List V} (e : Same F F') (h : SqF K F a xs) : SqF K F' a xs := by
  rcases h with ⟨o, h⟩ | h
  · exact .inl ⟨o, e _ _ h⟩
  · exact .inr h
/-- a caught exception of the class cls, its fields' dict d, at a -/
def ExA (cls : Value) (d : Option Addr) (a : Addr) : HO := .ext fun h => ∃ (oe : Obj) (vs : Array Value), h.get? a = some oe ∧ Zc cls d oe ∧ oe.data = .fields vs
/-- .. made with one text, that stands in the tuple at t -/
def ExT (cls : Value) (t : Addr) (a : Addr) : HO := .ext fun h => ∃ (oe : Obj) (vs : Array Value), h.get? a = some oe ∧ Zc cls none oe ∧ oe.data = .fields vs ∧ vs[0]? = some (.ref t)
/-- an exception of the class that the module calls x: its fields; or none; or the text that it was made with -/
def ExAt (K : PySem.W.Frag) (F : Hp) (x : Str) (ks : List Str) (a : Addr) (fvs : List (Str × V)) : Prop :=
  ∃ cls, PySem.W.nsIn K mainGlobals x = some (some cls) ∧
    ((F a = some (ExA cls none a) ∧ fvs = [] ∧ ks = []) ∨ (∃ d, F a = some (ExA cls (some d) a) ∧ F d = some (.xd fvs) ∧ fvs.map (·.1) = ks ∧ ks ≠ [] ∧ ks ≠ [("" : Str)]) ∨ ∃ t z, F a = some (ExT cls t a) ∧ F t = some (.tup [.str z]) ∧ fvs = [(("" : Str), V.str z)] ∧ ks = [("" : Str)])
theorem ExAt.same {K : PySem.W.Frag} {F F' : Hp} {x : Str} {ks : List Str} {a : Addr} {fvs : List (Str × V)} (e : Same F F') : ExAt K F x ks a fvs → ExAt K F' x ks a fvs := fun ⟨cls, h, q⟩ =>
  ⟨cls, h, q.elim (fun ⟨a, b, c⟩ => .inl ⟨e _ _ a, b, c⟩) fun q => .inr (q.elim (fun ⟨d, a, b, c⟩ => .inl ⟨d, e _ _ a, e _ _ b, c⟩) fun ⟨t, z, a, b, c⟩ => .inr ⟨t, z, e _ _ a, e _ _ b, c⟩)⟩
theorem ExAt.some {K : PySem.W.Frag} {F : Hp} {x : Str} {ks : List Str} {a : Addr} {fvs : List (Str × V)} : ExAt K F x ks a fvs → ∃ φ, F a = some (.ext φ) := fun ⟨cls, h, q⟩ =>
  q.elim (fun ⟨a, b, c⟩ => ⟨_, a⟩) fun q => q.elim (fun ⟨d, a, b, c⟩ => ⟨_, a⟩) fun ⟨t, z, a, b, c⟩ => ⟨_, a⟩
theorem sqT_same {K : PySem.W.Frag} {H H' : Hp} {a : Addr} {xs : List V} (e : Same H H') (h : SqT K H a xs) : SqT K H' a xs := by
  rcases h with (h | ⟨o, h⟩) | h
  · exact .inl (.inl (e _ _ h))
  · exact .inl (.inr ⟨o, e _ _ h⟩)
  · exact .inr h
/-- a tuple: a tracked one, or one of the module that is no key -/
structure TpF (K : PySem.W.Frag) (F : Hp) (a : Addr) (vs : List V) : Prop where
  q : SqT K F a vs
  t : F a = some (.tup vs) ∨ vs = [] ∨ ∃ e r, vs = V.ref e :: r
theorem TpF.of {K : PySem.W.Frag} {F : Hp} {a : Addr} {vs : List V} (h : F a = some (.tup vs)) : TpF K F a vs := ⟨.of h, .inl h⟩
theorem TpF.same {K : PySem.W.Frag} {F F' : Hp} {a : Addr} {vs : List V} (h : TpF K F a vs) (e : Same F F') : TpF K F' a vs := ⟨sqT_same e h.q, h.t.imp (e _ _) id⟩
mutual
inductive Dat (K : PySem.W.Frag) (F : Hp) (A : List Addr) : D → V → Prop
  | non : Dat K F A .non .non
  | bl (b : Bool) : Dat K F A (.bl b) (.bl b)
  | int (i : Int) : Dat K F A (.int i) (.int i)
  | str (x : Str) (h : x.length ≤ sizeLine) : Dat K F A (.str x) (.str x)
  | tup {a : Addr} {vs : List V} {ds : List D} : TpF K F a vs → DatL K F A ds vs → Dat K F A (.tup ds) (.ref a)
  | lst {a : Addr} {vs : List V} {ds : List D} : F a = some (.lst vs) → DatL K F A ds vs → Dat K F A (.lst ds) (.ref a)
  | frl {a : Addr} {vs : List V} {ds : List D} : SqF K F a vs → DatL K F A ds vs → Dat K F A (.frl ds) (.ref a)
  | dk {a : Addr} {kvs : List (Key × V)} {ds : List D} : F a = some (.dK kvs) → DatL K F A ds (kvs.map (·.2)) → Dat K F A (.dk (kvs.map (·.1)) ds) (.ref a)
  | dt {a : Addr} {kvs : List (List Key × V)} {ds : List D} : F a = some (.dT kvs) → DatL K F A ds (kvs.map (·.2)) → Dat K F A (.dt (kvs.map (·.1)) ds) (.ref a)
  | ref {l : Nat} {a : Addr} : A[l]? = some a → Dat K F A (.ref l) (.ref a)
  | exc {x : Str} {ks : List Str} {xs : List D} {a : Addr} {fvs : List (Str × V)} : ExAt K F x ks a fvs → DatL K F A xs (fvs.map (·.2)) → Dat K F A (.exc x ks xs) (.ref a)
inductive DatL (K : PySem.W.Frag) (F : Hp) (A : List Addr) : List D → List V → Prop
  | nil : DatL K F A [] []
  | cons {d : D} {ds : List D} {v : V} {vs : List V} : Dat K F A d v → DatL K F A ds vs → DatL K F A (d :: ds) (v :: vs)
end
mutual
theorem Dat.mono {K : PySem.W.Frag} {F F' : Hp} {A A' : List Addr} (e : Same F F') (p : ∀ (l : Nat) (a : Addr), A[l]? = some a → A'[l]? = some a) : ∀ (d : D) (v : V), Dat K F A d v → Dat K F' A' d v
  | .non, _, h => by cases h; exact .non
  | .bl _, _, h => by cases h; exact .bl _
  | .int _, _, h => by cases h; exact .int _
  | .str _, _, h => by
    cases h with
    | str _ hx => exact .str _ hx
  | .tup ds, _, h => by
    cases h with
    | tup hs ha => exact .tup (hs.same e) (DatL.mono e p ds _ ha)
  | .lst ds, _, h => by
    cases h with
    | lst hs ha => exact .lst (e _ _ hs) (DatL.mono e p ds _ ha)
  | .frl ds, _, h => by
    cases h with
    | frl hs ha => exact .frl (hs.same e) (DatL.mono e p ds _ ha)
  | .dk ks ds, _, h => by
    cases h with
    | dk hs ha => exact .dk (e _ _ hs) (DatL.mono e p ds _ ha)
  | .dt ks ds, _, h => by
    cases h with
    | dt hs ha => exact .dt (e _ _ hs) (DatL.mono e p ds _ ha)
  | .ref _, _, h => by
    cases h with
    | ref ha => exact .ref (p _ _ ha)
  | .exc x ks xs, _, h => by
    cases h with
    | exc h1 h2 => exact .exc (h1.same e) (DatL.mono e p xs _ h2)
theorem DatL.mono {K : PySem.W.Frag} {F F' : Hp} {A A' : List Addr} (e : Same F F') (p : ∀ (l : Nat) (a : Addr), A[l]? = some a → A'[l]? = some a) : ∀ (ds : List D) (vs : List V), DatL K F A ds vs → DatL K F' A' ds vs
  | [], _, h => by cases h; exact .nil
  | d :: ds, _, h => by
    cases h with
    | cons h1 h2 => exact .cons (Dat.mono e p d _ h1) (DatL.mono e p ds _ h2)
end
section
variable {K : PySem.W.Frag} {F : Hp} {A : List Addr}
theorem DatL.length : ∀ {ds : List D} {vs : List V}, DatL K F A ds vs → vs.length = ds.length
  | [], _, h => by cases h; rfl
  | _ :: ds, _, h => by
    cases h with
    | cons _ h2 => simp [DatL.length h2]
theorem DatL.get : ∀ {ds : List D} {vs : List V} {i : Nat} {d : D}, DatL K F A ds vs → ds[i]? = some d → ∃ v, vs[i]? = some v ∧ Dat K F A d v
  | [], _, _, _, _, e => by simp at e
  | d :: ds, _, 0, _, h, e => by
    cases h with
    | cons h1 h2 => simp at e; subst e; exact ⟨_, rfl, h1⟩
  | d :: ds, _, i + 1, _, h, e => by
    cases h with
    | cons h1 h2 =>
      obtain ⟨v, e1, h3⟩ := DatL.get (i := i) h2 (by simpa using e)
      exact ⟨v, by simpa using e1, h3⟩
theorem DatL.get' {ds : List D} {vs : List V} {i : Nat} {v : V} (h : DatL K F A ds vs) (e : vs[i]? = some v) : ∃ d, ds[i]? = some d ∧ Dat K F A d v := by
  have hl : i < ds.length := by rw [← h.length]; exact (List.getElem?_eq_some_iff.mp e).1
  obtain ⟨v', e', hd⟩ := h.get (List.getElem?_eq_getElem hl)
  rw [e] at e'; cases e'
  exact ⟨_, List.getElem?_eq_getElem hl, hd⟩
theorem DatL.append : ∀ {ds es : List D} {vs ws : List V}, DatL K F A ds vs → DatL K F A es ws → DatL K F A (ds ++ es) (vs ++ ws)
  | [], _, _, _, h, g => by cases h; exact g
  | _ :: ds, _, _, _, h, g => by
    cases h with
    | cons h1 h2 => exact .cons h1 (DatL.append h2 g)
theorem DatL.set : ∀ {ds : List D} {vs : List V} {d : D} {v : V} (i : Nat), Dat K F A d v → DatL K F A ds vs → DatL K F A (ds.set i d) (vs.set i v)
  | [], _, _, _, _, _, h => by cases h; exact .nil
  | _ :: ds, _, _, _, 0, g, h => by
    cases h with
    | cons h1 h2 => exact .cons g h2
  | _ :: ds, _, _, _, i + 1, g, h => by
    cases h with
    | cons h1 h2 => exact .cons h1 (DatL.set i g h2)
theorem DatL.take : ∀ {ds : List D} {vs : List V} (n : Nat), DatL K F A ds vs → DatL K F A (ds.take n) (vs.take n)
  | _, _, 0, _ => .nil
  | [], _, _ + 1, h => by cases h; exact .nil
  | _ :: ds, _, n + 1, h => by
    cases h with
    | cons h1 h2 => exact .cons h1 (DatL.take n h2)
theorem DatL.drop : ∀ {ds : List D} {vs : List V} (n : Nat), DatL K F A ds vs → DatL K F A (ds.drop n) (vs.drop n)
  | _, _, 0, h => h
  | [], _, _ + 1, h => by cases h; exact .nil
  | _ :: ds, _, n + 1, h => by
    cases h with
    | cons h1 h2 => exact DatL.drop n h2
theorem DatL.reverse {ds : List D} {vs : List V} (h : DatL K F A ds vs) : DatL K F A ds.reverse vs.reverse := by
  induction ds generalizing vs with
  | nil => cases h; exact .nil
  | cons d ds ih =>
    cases h with
    | cons h1 h2 =>
      rw [List.reverse_cons, List.reverse_cons]
      exact (ih h2).append (.cons h1 .nil)
theorem DatL.dropLast {ds : List D} {vs : List V} (h : DatL K F A ds vs) : DatL K F A ds.dropLast vs.dropLast := by
  rw [List.dropLast_eq_take, List.dropLast_eq_take, h.length]
  exact h.take _
theorem DatL.strs : ∀ {xs : List Str} {vs : List V}, DatL K F A (xs.map D.str) vs → vs = xs.map V.str
  | [], _, h => by cases h; rfl
  | x :: xs, _, h => by
    cases h with
    | cons h1 h2 => cases h1; rw [DatL.strs h2]; rfl
theorem DatL.ints : ∀ {xs : List Int} {vs : List V}, DatL K F A (xs.map D.int) vs → vs = xs.map V.int
  | [], _, h => by cases h; rfl
  | x :: xs, _, h => by
    cases h with
    | cons h1 h2 => cases h1; rw [DatL.ints h2]; rfl
theorem DatL.bls : ∀ {xs : List Bool} {vs : List V}, DatL K F A (xs.map D.bl) vs → vs = xs.map V.bl
  | [], _, h => by cases h; rfl
  | x :: xs, _, h => by
    cases h with
    | cons h1 h2 => cases h1; rw [DatL.bls h2]; rfl
theorem DatL.of_strs : ∀ (xs : List Str), (∀ x ∈ xs, x.length ≤ sizeLine) → DatL K F A (xs.map D.str) (xs.map V.str)
  | [], _ => .nil
  | x :: xs, h => .cons (.str x (h x List.mem_cons_self)) (DatL.of_strs xs fun y hy => h y (List.mem_cons_of_mem _ hy))
theorem DatL.of_ints : ∀ (xs : List Int), DatL K F A (xs.map D.int) (xs.map V.int)
  | [] => .nil
  | x :: xs => .cons (.int x) (DatL.of_ints xs)
end
def Live (A : List Addr) (s : Sto) (a : Addr) : Prop := ∃ (l : Nat) (mo : MO), s[l]? = some (some mo) ∧ A[l]? = some a ∧ mo.live = true
open Classical in
/-- what does not change: without the live objects and those at B -/
noncomputable def Fz (B : List Addr) (H : Hp) (A : List Addr) (s : Sto) : Hp := fun a => if Live A s a ∨ a ∈ B ∨ ∃ ps, H a = some (.tbl ps) then none else H a
theorem fz_of {B : List Addr} {H : Hp} {A : List Addr} {s : Sto} {a : Addr} {o : HO} (h : Fz B H A s a = some o) : H a = some o ∧ ¬ Live A s a ∧ a ∉ B := by
  unfold Fz at h
  split at h
  · cases h
  · rename_i q
    exact ⟨h, fun z => q (.inl z), fun z => q (.inr (.inl z))⟩
theorem fz_nt {B : List Addr} {H : Hp} {A : List Addr} {s : Sto} {a : Addr} {o : HO} (h : Fz B H A s a = some o) : ∀ ps, o ≠ .tbl ps := fun ps z => by
  have e := (fz_of h).1
  unfold Fz at h
  rw [if_pos (.inr (.inr ⟨ps, by rw [e, z]⟩))] at h
  cases h
theorem fz_to {B : List Addr} {H : Hp} {A : List Addr} {s : Sto} {a : Addr} {o : HO} (h : H a = some o) (n : ¬ Live A s a) (b : a ∉ B) (nt : ∀ ps, o ≠ .tbl ps := by exact fun _ z => nomatch z) : Fz B H A s a = some o := by
  unfold Fz
  rw [if_neg (fun z => z.elim n fun z => z.elim b fun ⟨ps, e⟩ => nt ps (Option.some.inj (h.symm.trans e)))]
  exact h
theorem fz_same {B : List Addr} {H : Hp} {A : List Addr} {s : Sto} : Same (Fz B H A s) H := fun _ _ h => (fz_of h).1
theorem sqL_fz {K : PySem.W.Frag} {B : List Addr} {H : Hp} {A : List Addr} {s : Sto} {a : Addr} {vs : List V} (h : SqL K (Fz B H A s) a vs) : SqL K H a vs := fz_same.seq h
theorem sqT_fz {K : PySem.W.Frag} {B : List Addr} {H : Hp} {A : List Addr} {s : Sto} {a : Addr} {vs : List V} (h : TpF K (Fz B H A s) a vs) : SqT K H a vs := sqT_same fz_same h.q
def ObR (K : PySem.W.Frag) (F : Hp) (A : List Addr) (H : Hp) (a : Addr) : MO → Prop
  | .lst ds => ∃ vs, H a = some (.lst vs) ∧ DatL K F A ds vs
  | .dk ks ds => ∃ kvs : List (Key × V), H a = some (.dK kvs) ∧ kvs.map (·.1) = ks ∧ DatL K F A ds (kvs.map (·.2))
  | .dt ks ds => ∃ kvs : List (List Key × V), H a = some (.dT kvs) ∧ kvs.map (·.1) = ks ∧ DatL K F A ds (kvs.map (·.2))
  | .ins c fs => ∃ C dx fvs, PySem.W.nsIn K mainGlobals c = some (some (.ref C)) ∧ H a = some (.ins C dx fvs) ∧ fvs.map (·.1) = fs.map (·.1) ∧ DatL K F A (fs.map (·.2)) (fvs.map (·.2))
  | .fdk ks ds => ∃ (o : Obj) (kvs : List (Key × V)), H a = some (.frz o (.dK kvs)) ∧ kvs.map (·.1) = ks ∧ DatL K F A ds (kvs.map (·.2))
  | .fdt ks ds => ∃ (o : Obj) (kvs : List (List Key × V)), H a = some (.frz o (.dT kvs)) ∧ kvs.map (·.1) = ks ∧ DatL K F A ds (kvs.map (·.2))
theorem ObR.mono {K : PySem.W.Frag} {F F' : Hp} {A A' : List Addr} {H H' : Hp} {a : Addr} (e : Same F F') (p : ∀ (l : Nat) (a : Addr), A[l]? = some a → A'[l]? = some a) (ha : H' a = H a) : ∀ {mo : MO}, ObR K F A H a mo → ObR K F' A' H' a mo
  | .lst _, ⟨vs, h, d⟩ => ⟨vs, ha.trans h, d.mono e p⟩
  | .dk _ _, ⟨kvs, h, k, d⟩ => ⟨kvs, ha.trans h, k, d.mono e p⟩
  | .dt _ _, ⟨kvs, h, k, d⟩ => ⟨kvs, ha.trans h, k, d.mono e p⟩
  | .ins _ _, ⟨C, dx, fvs, g, h, k, d⟩ => ⟨C, dx, fvs, g, ha.trans h, k, d.mono e p⟩
  | .fdk _ _, ⟨o, kvs, h, k, d⟩ => ⟨o, kvs, ha.trans h, k, d.mono e p⟩
  | .fdt _ _, ⟨o, kvs, h, k, d⟩ => ⟨o, kvs, ha.trans h, k, d.mono e p⟩
theorem ObR.some {K : PySem.W.Frag} {F : Hp} {A : List Addr} {H : Hp} {a : Addr} : ∀ {mo : MO}, ObR K F A H a mo → ∃ o, H a = some o
  | .lst _, ⟨_, h, _⟩ => ⟨_, h⟩
  | .dk _ _, ⟨_, h, _⟩ => ⟨_, h⟩
  | .dt _ _, ⟨_, h, _⟩ => ⟨_, h⟩
  | .ins _ _, ⟨_, _, _, _, h, _⟩ => ⟨_, h⟩
  | .fdk _ _, ⟨_, _, h, _⟩ => ⟨_, h⟩
  | .fdt _ _, ⟨_, _, h, _⟩ => ⟨_, h⟩
def lamNames : List Str := ["words_of", "words_at", "candidates"]
def tabsOf (K : PySem.W.Frag) : List (Addr × Str) := lamNames.filterMap fun x => (PySem.W.tabIn K x).map fun cp => (cp.2, x ++ (".<locals>." : Str) ++ ("<lambda>" : Str))
/-- neither a tuple nor a table nor a code object -/
structure HidO (u : HO) : Prop where
  t : ∀ vs, u ≠ .tup vs
  b : ∀ ps, u ≠ .tbl ps
  x : ∀ f, u ≠ .ext f
theorem tabs_upd {T : List (Addr × Str)} {H : Hp} {a : Addr} {o : HO} (t : LamX.Tabs T H) (n : ∀ u, H a = some u → (∀ ps, u ≠ .tbl ps) ∧ ∀ f, u ≠ .ext f) : LamX.Tabs T (upd H a o) := fun p hp => by
  obtain ⟨ps, h1, h2, h3⟩ := t p hp
  refine ⟨ps, by rw [upd_ne (fun z => (n _ (by rw [← z]; exact h1)).1 ps rfl)]; exact h1, h2, fun pos cv hc => ?_⟩
  obtain ⟨c, e1, e2⟩ := h3 pos cv hc
  exact ⟨c, e1, by rw [upd_ne (fun z => (n _ (by rw [← z]; exact e2)).2 _ rfl)]; exact e2⟩
theorem tabs_new {T : List (Addr × Str)} {H : Hp} {a : Addr} {o : HO} (t : LamX.Tabs T H) (n : H a = none) : LamX.Tabs T (upd H a o) := tabs_upd t fun u e => by rw [n] at e; cases e
theorem obr_hid {K : PySem.W.Frag} {F : Hp} {A : List Addr} {H : Hp} {a : Addr} : ∀ {mo : MO}, ObR K F A H a mo → ∀ u, H a = some u → (∀ ps, u ≠ .tbl ps) ∧ ∀ f, u ≠ .ext f
  | .lst _, ⟨_, h, _⟩, u, e => by rw [h] at e; cases e; exact ⟨(fun _ z => nomatch z), (fun _ z => nomatch z)⟩
  | .dk _ _, ⟨_, h, _⟩, u, e => by rw [h] at e; cases e; exact ⟨(fun _ z => nomatch z), (fun _ z => nomatch z)⟩
  | .dt _ _, ⟨_, h, _⟩, u, e => by rw [h] at e; cases e; exact ⟨(fun _ z => nomatch z), (fun _ z => nomatch z)⟩
  | .ins _ _, ⟨_, _, _, _, h, _⟩, u, e => by rw [h] at e; cases e; exact ⟨(fun _ z => nomatch z), (fun _ z => nomatch z)⟩
  | .fdk _ _, ⟨_, _, h, _⟩, u, e => by rw [h] at e; cases e; exact ⟨(fun _ z => nomatch z), (fun _ z => nomatch z)⟩
  | .fdt _ _, ⟨_, _, h, _⟩, u, e => by rw [h] at e; cases e; exact ⟨(fun _ z => nomatch z), (fun _ z => nomatch z)⟩
/-- the store s stands in H, its addresses A; B: what is hidden (a list that a comprehension makes) -/
structure RepS (K : PySem.W.Frag) (B : List Addr) (H : Hp) (A : List Addr) (s : Sto) : Prop where
  len : A.length = s.length
  inj : A.Nodup
  hd : ∀ a ∈ A, H a ≠ none
  hb : ∀ b ∈ B, H b ≠ none
  ab : ∀ b ∈ B, b ∉ A
  ht : ∀ b ∈ B, ∀ u, H b = some u → HidO u
  hx : ∀ a ∈ A, ∀ ps, H a ≠ some (.tbl ps)
  tb : LamX.Tabs (tabsOf K) H
  ob : ∀ (l : Nat) (mo : MO), s[l]? = some (some mo) → ∃ a, A[l]? = some a ∧ ObR K (Fz B H A s) A H a mo
structure Ext (B : List Addr) (H : Hp) (A : List Addr) (s : Sto) (H' : Hp) (A' : List Addr) (s' : Sto) : Prop where
  same : Same (Fz B H A s) (Fz B H' A' s')
  pre : ∀ (l : Nat) (a : Addr), A[l]? = some a → A'[l]? = some a
  hid : ∀ b ∈ B, H' b = H b
theorem Ext.refl {B : List Addr} {H : Hp} {A : List Addr} {s : Sto} : Ext B H A s H A s := ⟨Same.refl _, fun _ _ h => h, fun _ _ => rfl⟩
theorem Ext.trans {B : List Addr} {H H1 H2 : Hp} {A A1 A2 : List Addr} {s s1 s2 : Sto} (a : Ext B H A s H1 A1 s1) (b : Ext B H1 A1 s1 H2 A2 s2) : Ext B H A s H2 A2 s2 :=
  ⟨a.same.trans b.same, fun l c h => b.pre l c (a.pre l c h), fun c hc => (b.hid c hc).trans (a.hid c hc)⟩
theorem Dat.ext {K : PySem.W.Frag} {B : List Addr} {H H' : Hp} {A A' : List Addr} {s s' : Sto} {d : D} {v : V} (h : Dat K (Fz B H A s) A d v) (e : Ext B H A s H' A' s') : Dat K (Fz B H' A' s') A' d v := h.mono e.same e.pre
theorem DatL.ext {K : PySem.W.Frag} {B : List Addr} {H H' : Hp} {A A' : List Addr} {s s' : Sto} {d : List D} {v : List V} (h : DatL K (Fz B H A s) A d v) (e : Ext B H A s H' A' s') : DatL K (Fz B H' A' s') A' d v := h.mono e.same e.pre
section
variable {K : PySem.W.Frag} {B : List Addr} {H : Hp} {A : List Addr} {s : Sto}
theorem live_none (R : RepS K B H A s) {p : Addr} (hp : H p = none) : ¬ Live A s p := fun ⟨l, mo, h1, h2, _⟩ => R.hd p (List.mem_of_getElem? h2) hp
theorem hid_none (R : RepS K B H A s) {p : Addr} (hp : H p = none) : p ∉ B := fun h => R.hb p h hp
theorem fz_upd_new (R : RepS K B H A s) {p : Addr} {o : HO} (hp : H p = none) (nt : ∀ ps, o ≠ .tbl ps) : Same (Fz B H A s) (Fz B (upd H p o) A s) ∧ Fz B (upd H p o) A s p = some o := by
  refine ⟨fun b u h => ?_, ?_⟩
  · obtain ⟨h1, h2, h3⟩ := fz_of h
    exact fz_to (by rw [upd_ne (ne_of_none h1 hp)]; exact h1) h2 h3 (fz_nt h)
  · exact fz_to upd_same (live_none R hp) (hid_none R hp) nt
/-- a new object that never changes -/
theorem RepS.laid (R : RepS K B H A s) {p : Addr} {o : HO} (hp : H p = none) (nt : ∀ ps, o ≠ .tbl ps := by exact fun _ z => nomatch z) : RepS K B (upd H p o) A s ∧ Ext B H A s (upd H p o) A s ∧ Fz B (upd H p o) A s p = some o := by
  obtain ⟨e1, e2⟩ := fz_upd_new (o := o) R hp nt
  have ne : ∀ a, H a ≠ none → a ≠ p := fun a ha z => ha (by rw [z]; exact hp)
  refine ⟨⟨R.len, R.inj, fun a ha => ?_, fun b hb => ?_, R.ab, fun b hb => ?_, fun a ha => by rw [upd_ne (ne a (R.hd a ha))]; exact R.hx a ha, tabs_new R.tb hp, fun l mo h => ?_⟩, ⟨e1, fun _ _ h => h, fun b hb => upd_ne (ne b (R.hb b hb))⟩, e2⟩
  · rw [upd_ne (ne a (R.hd a ha))]; exact R.hd a ha
  · rw [upd_ne (ne b (R.hb b hb))]; exact R.hb b hb
  · rw [upd_ne (ne b (R.hb b hb))]; exact R.ht b hb
  · obtain ⟨a, ha, ho⟩ := R.ob l mo h
    exact ⟨a, ha, ho.mono e1 (fun _ _ h => h) (upd_ne (ne a (R.hd a (List.mem_of_getElem? ha))))⟩
theorem live_app {p : Addr} {mo : MO} {a : Addr} (hl : A.length = s.length) (lv : mo.live = true := by rfl) : Live (A ++ [p]) (s ++ [some mo]) a ↔ Live A s a ∨ a = p := by
  constructor
  · rintro ⟨l, mo', h1, h2, h3⟩
    rcases Nat.lt_or_ge l s.length with hlt | hge
    · rw [List.getElem?_append_left hlt] at h1
      rw [List.getElem?_append_left (by omega)] at h2
      exact .inl ⟨l, mo', h1, h2, h3⟩
    · rw [List.getElem?_append_right (by omega)] at h2
      have e : l - A.length = 0 := by
        rcases Nat.eq_zero_or_pos (l - A.length) with z | z
        · exact z
        · rw [List.getElem?_eq_none (by simp only [List.length_singleton]; omega)] at h2; cases h2
      rw [e] at h2
      exact .inr (Option.some.inj h2).symm
  · rintro (⟨l, mo', h1, h2, h3⟩ | rfl)
    · have hlt := (List.getElem?_eq_some_iff.mp h1).1
      exact ⟨l, mo', by rw [List.getElem?_append_left hlt]; exact h1, by rw [List.getElem?_append_left (by omega)]; exact h2, h3⟩
    · exact ⟨s.length, mo, by simp, by rw [← hl]; simp, lv⟩
theorem pre_app {A : List Addr} {p : Addr} : ∀ (l : Nat) (a : Addr), A[l]? = some a → (A ++ [p])[l]? = some a := fun l a h => by
  have hlt := (List.getElem?_eq_some_iff.mp h).1
  rw [List.getElem?_append_left hlt]; exact h
/-- a new object that may change -/
theorem RepS.born (R : RepS K B H A s) {p : Addr} {o : HO} {mo : MO} (hp : H p = none) (new : ObR K (Fz B H A s) A (upd H p o) p mo) (lv : mo.live = true := by rfl) :
    RepS K B (upd H p o) (A ++ [p]) (s ++ [some mo]) ∧ Ext B H A s (upd H p o) (A ++ [p]) (s ++ [some mo]) := by
  have ne : ∀ a, H a ≠ none → a ≠ p := fun a ha z => ha (by rw [z]; exact hp)
  have e1 : Same (Fz B H A s) (Fz B (upd H p o) (A ++ [p]) (s ++ [some mo])) := fun b u h => by
    obtain ⟨h1, h2, h3⟩ := fz_of h
    have nb : b ≠ p := ne_of_none h1 hp
    exact fz_to (by rw [upd_ne nb]; exact h1) (fun z => ((live_app R.len lv).mp z).elim h2 nb) h3 (fz_nt h)
  have npA : p ∉ A := fun h => R.hd p h hp
  refine ⟨⟨by simp [R.len], ?_, fun a ha => ?_, fun b hb => ?_, fun b hb => ?_, fun b hb => by rw [upd_ne (ne b (R.hb b hb))]; exact R.ht b hb, fun a ha ps z => by
      rcases List.mem_append.mp ha with ha | ha
      · rw [upd_ne (ne a (R.hd a ha))] at z; exact R.hx a ha ps z
      · rw [List.mem_singleton.mp ha] at z; exact (obr_hid new _ z).1 ps rfl, tabs_new R.tb hp, fun l mo' h => ?_⟩, ⟨e1, pre_app, fun b hb => upd_ne (ne b (R.hb b hb))⟩⟩
  · rw [List.nodup_append]
    refine ⟨R.inj, by simp, fun a ha b hb z => ?_⟩
    have : b = p := by simpa using hb
    subst this; subst z
    exact npA ha
  · rcases List.mem_append.mp ha with ha | ha
    · rw [upd_ne (ne a (R.hd a ha))]; exact R.hd a ha
    · have : a = p := by simpa using ha
      subst this; rw [upd_same]; exact fun z => nomatch z
  · rw [upd_ne (ne b (R.hb b hb))]; exact R.hb b hb
  · intro z
    rcases List.mem_append.mp z with z | z
    · exact R.ab b hb z
    · have : b = p := by simpa using z
      subst this; exact R.hb b hb hp
  · rcases Nat.lt_or_ge l s.length with hlt | hge
    · rw [List.getElem?_append_left hlt] at h
      obtain ⟨a, ha, ho⟩ := R.ob l mo' h
      exact ⟨a, pre_app _ _ ha, ho.mono e1 pre_app (upd_ne (ne a (R.hd a (List.mem_of_getElem? ha))))⟩
    · rw [List.getElem?_append_right hge] at h
      have e : l - s.length = 0 := by
        rcases Nat.eq_zero_or_pos (l - s.length) with z | z
        · exact z
        · rw [List.getElem?_eq_none (by simp only [List.length_singleton]; omega)] at h; cases h
      rw [e] at h
      have h' : mo = mo' := by simpa using h
      subst h'
      have : l = s.length := by omega
      subst this
      exact ⟨p, by rw [← R.len]; simp, new.mono e1 pre_app rfl⟩
theorem nodup_get {A : List Addr} (h : A.Nodup) {i j : Nat} {a : Addr} (x : A[i]? = some a) (y : A[j]? = some a) : i = j := by
  obtain ⟨h1, e1⟩ := List.getElem?_eq_some_iff.mp x
  obtain ⟨h2, e2⟩ := List.getElem?_eq_some_iff.mp y
  exact (List.getElem_inj h).mp (e1.trans e2.symm)
theorem live_set (R : RepS K B H A s) {l : Nat} {mo mo' : MO} (h : s[l]? = some (some mo)) {a : Addr} (lv : mo.live = true) (lv' : mo'.live = true) : Live A (s.set l (some mo')) a ↔ Live A s a := by
  have hl := (List.getElem?_eq_some_iff.mp h).1
  constructor
  · rintro ⟨k, m, h1, h2, h3⟩
    by_cases e : l = k
    · subst e; exact ⟨l, mo, h, h2, lv⟩
    · rw [List.getElem?_set_ne e] at h1; exact ⟨k, m, h1, h2, h3⟩
  · rintro ⟨k, m, h1, h2, h3⟩
    by_cases e : l = k
    · subst e; exact ⟨l, mo', List.getElem?_set_self hl, h2, lv'⟩
    · exact ⟨k, m, by rw [List.getElem?_set_ne e]; exact h1, h2, h3⟩
/-- an object changes -/
theorem RepS.write (R : RepS K B H A s) {l : Nat} {a : Addr} {o : HO} {mo mo' : MO} (h : s[l]? = some (some mo)) (ha : A[l]? = some a) (new : ObR K (Fz B H A s) A (upd H a o) a mo') (lv : mo.live = true := by rfl) (lv' : mo'.live = true := by rfl) :
    RepS K B (upd H a o) A (s.set l (some mo')) ∧ Ext B H A s (upd H a o) A (s.set l (some mo')) := by
  have hl := (List.getElem?_eq_some_iff.mp h).1
  have haA : a ∈ A := List.mem_of_getElem? ha
  have e1 : Same (Fz B H A s) (Fz B (upd H a o) A (s.set l (some mo'))) := fun b u q => by
    obtain ⟨h1, h2, h3⟩ := fz_of q
    have nb : b ≠ a := fun z => h2 ⟨l, mo, h, by rw [z]; exact ha, lv⟩
    exact fz_to (by rw [upd_ne nb]; exact h1) (fun z => h2 ((live_set R h lv lv').mp z)) h3 (fz_nt q)
  refine ⟨⟨by simp [R.len], R.inj, fun c hc => ?_, fun b hb => ?_, R.ab, fun b hb => by rw [upd_ne (fun z => R.ab b hb (by rw [z]; exact haA))]; exact R.ht b hb, fun c hc ps z => by
      by_cases e : c = a
      · rw [e] at z; exact (obr_hid new _ z).1 ps rfl
      · rw [upd_ne e] at z; exact R.hx c hc ps z, tabs_upd R.tb (by obtain ⟨b, hb, ho⟩ := R.ob l mo h; rw [ha] at hb; cases hb; exact obr_hid ho), fun k m q => ?_⟩, ⟨e1, fun _ _ z => z, fun b hb => upd_ne (fun z => R.ab b hb (by rw [z]; exact haA))⟩⟩
  · by_cases e : c = a
    · subst e; rw [upd_same]; exact fun z => nomatch z
    · rw [upd_ne e]; exact R.hd c hc
  · rw [upd_ne (fun z => R.ab b hb (by rw [z]; exact haA))]; exact R.hb b hb
  · by_cases e : l = k
    · subst e
      rw [List.getElem?_set_self hl] at q
      have q' : mo' = m := by simpa using q
      subst q'
      exact ⟨a, ha, new.mono e1 (fun _ _ z => z) rfl⟩
    · rw [List.getElem?_set_ne e] at q
      obtain ⟨c, hc, ho⟩ := R.ob k m q
      have nc : c ≠ a := fun z => e (nodup_get R.inj ha (by rw [← z]; exact hc))
      exact ⟨c, hc, ho.mono e1 (fun _ _ z => z) (upd_ne nc)⟩
/-- an object changes no more -/
theorem RepS.freeze (R : RepS K B H A s) {l : Nat} {a : Addr} {mo : MO} (h : s[l]? = some (some mo)) (ha : A[l]? = some a) :
    RepS K B H A (s.set l none) ∧ Ext B H A s H A (s.set l none) ∧ (∀ o, H a = some o → Fz B H A (s.set l none) a = some o) := by
  have hl := (List.getElem?_eq_some_iff.mp h).1
  have haA : a ∈ A := List.mem_of_getElem? ha
  have lv : ∀ b, Live A (s.set l none) b → Live A s b ∧ b ≠ a := by
    rintro b ⟨k, m, h1, h2, h3⟩
    by_cases e : l = k
    · subst e; rw [List.getElem?_set_self hl] at h1; cases h1
    · rw [List.getElem?_set_ne e] at h1
      exact ⟨⟨k, m, h1, h2, h3⟩, fun z => e (nodup_get R.inj ha (by rw [← z]; exact h2))⟩
  have e1 : Same (Fz B H A s) (Fz B H A (s.set l none)) := fun b u q => by
    obtain ⟨h1, h2, h3⟩ := fz_of q
    exact fz_to h1 (fun z => h2 (lv b z).1) h3 (fz_nt q)
  refine ⟨⟨by simp [R.len], R.inj, R.hd, R.hb, R.ab, R.ht, R.hx, R.tb, fun k m q => ?_⟩, ⟨e1, fun _ _ z => z, fun _ _ => rfl⟩, fun o q => fz_to q (fun z => (lv a z).2 rfl) (fun z => R.ab a z haA) (by obtain ⟨b, hb, ho⟩ := R.ob l mo h; rw [ha] at hb; cases hb; exact (obr_hid ho o q).1)⟩
  by_cases e : l = k
  · subst e; rw [List.getElem?_set_self hl] at q; cases q
  · rw [List.getElem?_set_ne e] at q
    obtain ⟨c, hc, ho⟩ := R.ob k m q
    exact ⟨c, hc, ho.mono e1 (fun _ _ z => z) rfl⟩
end
structure RepE (K : PySem.W.Frag) (F : Hp) (A : List Addr) (env : En) (σ : L2.St) : Prop where
  len : env.length = σ.length
  get : ∀ (i : Nat) (d : D), env[i]? = some (some d) → ∃ v, σ[i]? = some (some v) ∧ Dat K F A d v
theorem RepE.ext {K : PySem.W.Frag} {B : List Addr} {H H' : Hp} {A A' : List Addr} {s s' : Sto} {env : En} {σ : L2.St} (h : RepE K (Fz B H A s) A env σ) (e : Ext B H A s H' A' s') : RepE K (Fz B H' A' s') A' env σ :=
  ⟨h.len, fun i d q => let ⟨v, h1, h2⟩ := h.get i d q; ⟨v, h1, h2.ext e⟩⟩
theorem RepE.set {K : PySem.W.Frag} {F : Hp} {A : List Addr} {env : En} {σ : L2.St} (h : RepE K F A env σ) (i : Nat) {d : D} {v : V} (hd : Dat K F A d v) : RepE K F A (env.set i (some d)) (σ.set i (some v)) := by
  refine ⟨by simp [h.len], fun j e q => ?_⟩
  by_cases hj : i = j
  · subst hj
    have hi : i < env.length := by
      have := (List.getElem?_eq_some_iff.mp q).1
      simpa using this
    rw [List.getElem?_set_self hi] at q
    have q' : d = e := by simpa using q
    subst q'
    exact ⟨v, List.getElem?_set_self (by rw [← h.len]; exact hi), hd⟩
  · rw [List.getElem?_set_ne hj] at q
    obtain ⟨v', h1, h2⟩ := h.get j e q
    exact ⟨v', by rw [List.getElem?_set_ne hj]; exact h1, h2⟩
def wipeE (env : En) : List Nat → En
  | [] => env
  | v :: vs => (wipeE env vs).set v none
theorem wipeE_length (env : En) : ∀ vs : List Nat, (wipeE env vs).length = env.length
  | [] => rfl
  | v :: vs => by unfold wipeE; rw [List.length_set, wipeE_length env vs]
theorem RepE.wipe {K : PySem.W.Frag} {F : Hp} {A : List Addr} {env : En} {σ : L2.St} (h : RepE K F A env σ) : ∀ vs : List Nat, RepE K F A (wipeE env vs) (L2.wipe σ vs)
  | [] => h
  | v :: vs => by
    have ih := RepE.wipe h vs
    refine ⟨by unfold wipeE L2.wipe; simp [ih.len], fun j e q => ?_⟩
    unfold wipeE at q
    by_cases hj : v = j
    · subst hj
      have hi : v < (wipeE env vs).length := by
        have := (List.getElem?_eq_some_iff.mp q).1
        simpa using this
      rw [List.getElem?_set_self hi] at q
      cases q
    · rw [List.getElem?_set_ne hj] at q
      obtain ⟨v', h1, h2⟩ := ih.get j e q
      exact ⟨v', by unfold L2.wipe; rw [List.getElem?_set_ne hj]; exact h1, h2⟩
end Dl
set_option Elab.async false
set_option linter.all false
set_option autoImplicit false
set_option maxRecDepth 100000
set_option maxHeartbeats 4000000
namespace Dl
open PySem PySem.Spec PyProof.Rows L2
abbrev ED := En → Sto → (D → Sto → Prop) → Prop
abbrev TD := En → Sto → (Bool → Sto → Prop) → Prop
abbrev AD := En → Sto → (List D → Sto → Prop) → Prop
structure EndsD where
  nx : En → Sto → Prop
  rt : D → Sto → Prop
  bk : En → Sto → Prop
  ct : En → Sto → Prop
abbrev SD := EndsD → En → Sto → Prop
def Mono {α : Type} (t : En → Sto → (α → Sto → Prop) → Prop) : Prop := ∀ (env : En) (s : Sto) (P P' : α → Sto → Prop), (∀ d s', P d s' → P' d s') → t env s P → t env s P'
structure EndsD.Le (a b : EndsD) : Prop where
  nx : ∀ e s, a.nx e s → b.nx e s
  rt : ∀ d s, a.rt d s → b.rt d s
  bk : ∀ e s, a.bk e s → b.bk e s
  ct : ∀ e s, a.ct e s → b.ct e s
def MonoS (t : SD) : Prop := ∀ (a b : EndsD) (env : En) (s : Sto), a.Le b → t a env s → t b env s
theorem EndsD.Le.refl {a : EndsD} : a.Le a := ⟨fun _ _ h => h, fun _ _ h => h, fun _ _ h => h, fun _ _ h => h⟩
section
variable (K : PySem.W.Frag) (B : List Addr) (H : Hp) (A : List Addr) (s : Sto)
def PostE (Q : VK) : D → Sto → Prop := fun d s' => ∀ (v : V) (H' : Hp) (A' : List Addr), RepS K B H' A' s' → Ext B H A s H' A' s' → Dat K (Fz B H' A' s') A' d v → Q v H'
def PostT (Q : Bool → Hp → Prop) : Bool → Sto → Prop := fun b s' => ∀ (H' : Hp) (A' : List Addr), RepS K B H' A' s' → Ext B H A s H' A' s' → Q b H'
def PostA (Q : List V → Hp → Prop) : List D → Sto → Prop := fun d s' => ∀ (v : List V) (H' : Hp) (A' : List Addr), RepS K B H' A' s' → Ext B H A s H' A' s' → DatL K (Fz B H' A' s') A' d v → Q v H'
def PostN (Q : L2.St → Hp → Prop) : En → Sto → Prop := fun env s' => ∀ (σ : L2.St) (H' : Hp) (A' : List Addr), RepS K B H' A' s' → Ext B H A s H' A' s' → RepE K (Fz B H' A' s') A' env σ → Q σ H'
def PostS (E : Ends) : EndsD := ⟨PostN K B H A s E.nx, PostE K B H A s E.rt, PostN K B H A s E.bk, PostN K B H A s E.ct⟩
end
/-- the known objects, and what is known of every world of a body (z: kept from world to world) -/
structure KK where
  K : PySem.W.Frag
  Z : List Addr → Hp → List Addr → Sto → Prop
  zc : ∀ {B : List Addr} {H H' : Hp} {A A' : List Addr} {s s' : Sto}, Z B H A s → Ext B H A s H' A' s' → Z B H' A' s'
instance : Coe KK PySem.W.Frag := ⟨KK.K⟩
def kk0 (K : PySem.W.Frag) : KK := ⟨K, fun _ _ _ _ => True, fun _ _ => trivial⟩
/-- a world: the store s stands in H, the slots σ hold env -/
structure Wo (K : KK) (B : List Addr) (H : Hp) (A : List Addr) (s : Sto) (env : En) (σ : L2.St) : Prop where
  rs : RepS K.K B H A s
  re : RepE K.K (Fz B H A s) A env σ
  z : K.Z B H A s
theorem Wo.to {K : KK} {B : List Addr} {H H' : Hp} {A A' : List Addr} {s s' : Sto} {env : En} {σ : L2.St} (w : Wo K B H A s env σ) (r : RepS K.K B H' A' s') (e : Ext B H A s H' A' s') : Wo K B H' A' s' env σ := ⟨r, w.re.ext e, K.zc w.z e⟩
def rdE (K : KK) (t : ED) : TE := fun σ H Q => ∃ (env : En) (s : Sto) (A B : List Addr), Wo K B H A s env σ ∧ t env s (PostE K.K B H A s Q)
def rdT (K : KK) (t : TD) : TT := fun σ H Q => ∃ (env : En) (s : Sto) (A B : List Addr), Wo K B H A s env σ ∧ t env s (PostT K.K B H A s Q)
def rdA (K : KK) (t : AD) : TA := fun σ H Q => ∃ (env : En) (s : Sto) (A B : List Addr), Wo K B H A s env σ ∧ t env s (PostA K.K B H A s Q)
def rdS (K : KK) (t : SD) : TS := fun D σ H => ∃ (env : En) (s : Sto) (A B : List Addr), Wo K B H A s env σ ∧ t (PostS K.K B H A s D) env s
/-- an exception: its class's name, its fields -/
abbrev XD := Str → List (Str × D) → Sto → Prop
/-- .. with the slots where it was raised -/
abbrev WXD := Str → List (Str × D) → En → Sto → Prop
def XRep (K : PySem.W.Frag) (F : Hp) (A : List Addr) (fs : List (Str × D)) (dx : Option Addr) : Prop :=
  (fs = [] ∧ dx = none) ∨ fs ≠ [] ∧ ∃ d fvs, dx = some d ∧ F d = some (.xd fvs) ∧ fvs.map (·.1) = fs.map (·.1) ∧ DatL K F A (fs.map (·.2)) (fvs.map (·.2))
/-- a body's place, and what may leave it -/
structure DX extends Cx where
  W : WX
  tk : Takes toCx W
  Z : List Addr → Hp → List Addr → Sto → Prop
  zc : ∀ {B : List Addr} {H H' : Hp} {A A' : List Addr} {s s' : Sto}, Z B H A s → Ext B H A s H' A' s' → Z B H' A' s'
  WD : WXD
  wd : ∀ (x : Str) (fs : List (Str × D)) (env : En) (s' : Sto) (cls : Value) (dx : Option Addr) (σ : L2.St) (B : List Addr) (H' : Hp) (A' : List Addr), Wo ⟨K, Z, zc⟩ B H' A' s' env σ → mg x = some cls → XRep K (Fz B H' A' s') A' fs dx → WD x fs env s' → W cls dx σ H'
instance : CoeOut DX Cx := ⟨DX.toCx⟩
abbrev DX.kk (X : DX) : KK := ⟨X.K, X.Z, X.zc⟩
/-- nothing is raised -/
abbrev dx0 (X : Cx) : DX := { X with W := fun _ _ _ _ => False, tk := takes0, Z := fun _ _ _ _ => True, zc := fun _ _ => trivial, WD := fun _ _ _ _ => False, wd := fun _ _ _ _ _ _ _ _ _ _ _ _ _ h => h.elim }
structure PD (X : DX) (e : Expr) (t : ED) : Prop where
  pe : PE X e (rdE X.kk t)
  mono : Mono t
structure PTD (X : DX) (e : Expr) (t : TD) : Prop where
  pt : PT X e (rdT X.kk t)
  mono : Mono t
structure PWD (X : DX) (e : Expr) (t : TD) : Prop where
  pw : PW X e (rdT X.kk t)
  mono : Mono t
structure PAD (X : DX) (es : List Expr) (t : AD) : Prop where
  pa : PA X es (rdA X.kk t)
  mono : Mono t
structure PSD (X : DX) (st : Stmt) (t : SD) : Prop where
  ps : PS X st (rdS X.kk t)
  mono : MonoS t
structure PSsD (X : DX) (sts : List Stmt) (t : SD) : Prop where
  pss : PSs X sts (rdS X.kk t)
  mono : MonoS t
theorem pe_imp {X : Cx} {e : Expr} {t t' : TE} (h : PE X e t) (f : ∀ σ H Q, t' σ H Q → t σ H Q) : PE X e t' := ⟨fun pins s σ H Q I q => h.run pins s σ H Q I (f σ H Q q)⟩
theorem pt_imp {X : Cx} {e : Expr} {t t' : TT} (h : PT X e t) (f : ∀ σ H Q, t' σ H Q → t σ H Q) : PT X e t' := ⟨fun pins s σ H Q I q => h.run pins s σ H Q I (f σ H Q q)⟩
theorem pw_imp {X : Cx} {e : Expr} {t t' : TT} (h : PW X e t) (f : ∀ σ H Q, t' σ H Q → t σ H Q) : PW X e t' := ⟨fun wh pins s σ H Q I q => h.run wh pins s σ H Q I (f σ H Q q)⟩
theorem pa_imp {X : Cx} {e : List Expr} {t t' : TA} (h : PA X e t) (f : ∀ σ H Q, t' σ H Q → t σ H Q) : PA X e t' := ⟨fun pos pins s σ H Q I q => h.run pos pins s σ H Q I (f σ H Q q)⟩
theorem ps_imp {X : Cx} {e : Stmt} {t t' : TS} (h : PS X e t) (f : ∀ D σ H, t' D σ H → t D σ H) : PS X e t' := ⟨fun pins s σ H D I q => h.run pins s σ H D I (f D σ H q)⟩
theorem pss_imp {X : Cx} {e : List Stmt} {t t' : TS} (h : PSs X e t) (f : ∀ D σ H, t' D σ H → t D σ H) : PSs X e t' := ⟨fun pins s σ H D I q => h.run pins s σ H D I (f D σ H q)⟩
section
variable {B : List Addr} {H : Hp} {A : List Addr} {s : Sto} {env : En} {σ : L2.St}
/-- go on with a datum -/
theorem rdE_go {K : KK} {t : ED} (m : Mono t) {P : D → Sto → Prop} {Q : VK} (w : Wo K B H A s env σ) (h : t env s P)
    (k : ∀ (d : D) (s' : Sto) (v : V) (H' : Hp) (A' : List Addr), P d s' → Wo K B H' A' s' env σ → Ext B H A s H' A' s' → Dat K (Fz B H' A' s') A' d v → Q v H') : rdE K t σ H Q :=
  ⟨env, s, A, B, w, m _ _ _ _ (fun d s' p v H' A' r e dv => k d s' v H' A' p (w.to r e) e dv) h⟩
theorem rdT_go {K : KK} {t : TD} (m : Mono t) {P : Bool → Sto → Prop} {Q : Bool → Hp → Prop} (w : Wo K B H A s env σ) (h : t env s P)
    (k : ∀ (d : Bool) (s' : Sto) (H' : Hp) (A' : List Addr), P d s' → Wo K B H' A' s' env σ → Ext B H A s H' A' s' → Q d H') : rdT K t σ H Q :=
  ⟨env, s, A, B, w, m _ _ _ _ (fun d s' p H' A' r e => k d s' H' A' p (w.to r e) e) h⟩
theorem rdA_go {K : KK} {t : AD} (m : Mono t) {P : List D → Sto → Prop} {Q : List V → Hp → Prop} (w : Wo K B H A s env σ) (h : t env s P)
    (k : ∀ (d : List D) (s' : Sto) (v : List V) (H' : Hp) (A' : List Addr), P d s' → Wo K B H' A' s' env σ → Ext B H A s H' A' s' → DatL K (Fz B H' A' s') A' d v → Q v H') : rdA K t σ H Q :=
  ⟨env, s, A, B, w, m _ _ _ _ (fun d s' p v H' A' r e dv => k d s' v H' A' p (w.to r e) e dv) h⟩
/-- an end from further on -/
theorem PostE.from {K : PySem.W.Frag} {H1 : Hp} {A1 : List Addr} {s1 : Sto} {Q : VK} {d : D} {s' : Sto} (e : Ext B H A s H1 A1 s1) (h : PostE K B H A s Q d s') : PostE K B H1 A1 s1 Q d s' := fun v H' A' r x dv => h v H' A' r (e.trans x) dv
theorem PostN.from {K : PySem.W.Frag} {H1 : Hp} {A1 : List Addr} {s1 : Sto} {Q : L2.St → Hp → Prop} {d : En} {s' : Sto} (e : Ext B H A s H1 A1 s1) (h : PostN K B H A s Q d s') : PostN K B H1 A1 s1 Q d s' := fun v H' A' r x dv => h v H' A' r (e.trans x) dv
theorem PostS.from {K : PySem.W.Frag} {H1 : Hp} {A1 : List Addr} {s1 : Sto} {E : Ends} (e : Ext B H A s H1 A1 s1) : (PostS K B H A s E).Le (PostS K B H1 A1 s1 E) :=
  ⟨fun _ _ h => PostN.from e h, fun _ _ h => PostE.from e h, fun _ _ h => PostN.from e h, fun _ _ h => PostN.from e h⟩
end
section
def dVar (i : Nat) : ED := fun env s Q => ∃ d, env[i]? = some (some d) ∧ Q d s
theorem mono_var {i : Nat} : Mono (dVar i) := fun _ _ _ _ f ⟨d, e, q⟩ => ⟨d, e, f _ _ q⟩
theorem pd_var {X : DX} (i : Nat) {e : Expr} (h : PE X e (tVar i)) : PD X e (dVar i) := ⟨pe_imp h fun σ H Q ⟨env, s, A, B, w, d, e, q⟩ => by
  obtain ⟨v, h1, h2⟩ := w.re.get i d e
  exact ⟨v, h1, q v H A w.rs .refl h2⟩, mono_var⟩
def dC (d : D) : ED := fun _ s Q => Q d s
theorem mono_c {d : D} : Mono (dC d) := fun _ _ _ _ f q => f _ _ q
/-- a plain constant -/
theorem pd_c {X : DX} {e : Expr} {v : V} {d : D} (h : PE X e (tC v)) (hd : ∀ (F : Hp) (A : List Addr), Dat X.K F A d v) : PD X e (dC d) := ⟨pe_imp h fun σ H Q ⟨env, s, A, B, w, q⟩ => q v H A w.rs .refl (hd _ _), mono_c⟩
theorem pd_int {X : DX} {i : Int} {j : Nat} {pos : Pos} : PD X (.Constant (.int i) j pos) (dC (.int i)) := pd_c pe_int fun _ _ => .int i
theorem pd_bl {X : DX} {b : Bool} {j : Nat} {pos : Pos} : PD X (.Constant (.bool b) j pos) (dC (.bl b)) := pd_c pe_bl fun _ _ => .bl b
theorem pd_non {X : DX} {j : Nat} {pos : Pos} : PD X (.Constant .none j pos) (dC .non) := pd_c pe_non fun _ _ => .non
theorem pd_str {X : DX} {x : Str} {j : Nat} {pos : Pos} (hx : x.length ≤ sizeLine := by decide +kernel) : PD X (.Constant (.str x) j pos) (dC (.str x)) := pd_c pe_str fun _ _ => .str x hx
theorem pd_gint {X : DX} {x : Str} {i : Int} {t : Tok} {pos : Pos} (hg : Gl X x) (hm : X.mg x = some (.int i t)) (hd : (x == ("__debug__" : Str)) = false := by decide) : PD X (.Name x pos) (dC (.int i)) := pd_c (v := .int i) (pe_glob hg hm ⟨t, rfl⟩ hd) fun _ _ => .int i
theorem pd_gstr {X : DX} {x z : Str} {t : Tok} {pos : Pos} (hg : Gl X x) (hm : X.mg x = some (.str z t)) (hz : z.length ≤ sizeLine := by decide +kernel) (hd : (x == ("__debug__" : Str)) = false := by decide) : PD X (.Name x pos) (dC (.str z)) := pd_c (v := .str z) (pe_glob hg hm ⟨t, rfl⟩ hd) fun _ _ => .str z hz
abbrev O2 := D → D → Sto → (D → Sto → Prop) → Prop
def MonoO (o : O2) : Prop := ∀ x y s P P', (∀ d s', P d s' → P' d s') → o x y s P → o x y s P'
/-- an operation by values answers for data -/
def OpX (X : Cx) (f : Value → Value → Sem Value) (o : O2) : Prop := ∃ r, OpR X f r ∧ ∀ (x y : D) (s : Sto) (v w : V) (H : Hp) (A B : List Addr) (Q : VK), RepS X.K B H A s → Dat X.K (Fz B H A s) A x v → Dat X.K (Fz B H A s) A y w → o x y s (PostE X.K B H A s Q) → r v w H Q
theorem OpX.or {X : Cx} {f : Value → Value → Sem Value} {o o' : O2} (h : OpX X f o) (h' : OpX X f o') : OpX X f (fun x y s Q => o x y s Q ∨ o' x y s Q) := by
  obtain ⟨r, h1, h2⟩ := h
  obtain ⟨r', h1', h2'⟩ := h'
  exact ⟨_, h1.or h1', fun x y s v w H A B Q R dv dw q => q.elim (fun q => .inl (h2 x y s v w H A B Q R dv dw q)) fun q => .inr (h2' x y s v w H A B Q R dv dw q)⟩
theorem OpX.imp {X : Cx} {f : Value → Value → Sem Value} {o o' : O2} (h : OpX X f o) (i : ∀ x y s Q, o' x y s Q → o x y s Q) : OpX X f o' := by
  obtain ⟨r, h1, h2⟩ := h
  exact ⟨r, h1, fun x y s v w H A B Q R dv dw q => h2 x y s v w H A B Q R dv dw (i _ _ _ _ q)⟩
/-- an operation that is a function -/
def oF (f : Sto → D → D → Option D) : O2 := fun x y s Q => ∃ z, f s x y = some z ∧ Q z s
theorem mono_oF {f : Sto → D → D → Option D} : MonoO (oF f) := fun _ _ _ _ _ g ⟨z, e, q⟩ => ⟨z, e, g _ _ q⟩
def dBin (o : O2) (ta tb : ED) : ED := fun env s Q => ta env s fun x s1 => tb env s1 fun y s2 => o x y s2 Q
theorem mono_bin {o : O2} {ta tb : ED} (mo : MonoO o) (ma : Mono ta) (mb : Mono tb) : Mono (dBin o ta tb) := fun env s P P' f h => ma _ _ _ _ (fun x s1 h1 => mb _ _ _ _ (fun y s2 h2 => mo _ _ _ _ _ f h2) h1) h
variable {a b c : Expr} {ta tb tc : ED} {pos : Pos}
theorem bin_rd {X : DX} {o : O2} {r : R2} (ma : Mono ta) (mb : Mono tb) (mo : MonoO o) (l : ∀ (x y : D) (s : Sto) (v w : V) (H : Hp) (A B : List Addr) (Q : VK), RepS X.K B H A s → Dat X.K (Fz B H A s) A x v → Dat X.K (Fz B H A s) A y w → o x y s (PostE X.K B H A s Q) → r v w H Q)
    (σ : L2.St) (H : Hp) (Q : VK) (h : rdE X.kk (dBin o ta tb) σ H Q) : tOp r (rdE X.kk ta) (rdE X.kk tb) σ H Q := by
  obtain ⟨env, s, A, B, w, h⟩ := h
  refine rdE_go ma w h fun x s1 v H1 A1 h1 w1 e1 dv => ?_
  refine rdE_go mb w1 h1 fun y s2 u H2 A2 h2 w2 e2 du => ?_
  exact l x y s2 v u H2 A2 B Q w2.rs (dv.ext e2) du (mo _ _ _ _ _ (fun d s' p => PostE.from (e1.trans e2) p) h2)
theorem pd_bin {X : DX} {op : Operator} {o : O2} (ho : OpX X (binaryOp op) o) (mo : MonoO o) (ha : PD X a ta) (hb : PD X b tb) : PD X (.BinOp a op b pos) (dBin o ta tb) := by
  obtain ⟨r, h1, h2⟩ := ho
  exact ⟨pe_imp (pe_op h1 ha.pe hb.pe) (bin_rd ha.mono hb.mono mo h2), mono_bin mo ha.mono hb.mono⟩
theorem pd_cmp {X : DX} {op : CmpOp} {o : O2} (ho : OpX X (compareOp op) o) (mo : MonoO o) (ha : PD X a ta) (hb : PD X b tb) (hm : behindInMarks op b = false) : PD X (.Compare a [op] [b] pos) (dBin o ta tb) := by
  obtain ⟨r, h1, h2⟩ := ho
  exact ⟨pe_imp (pe_cmpR h1 ha.pe hb.pe hm) (bin_rd ha.mono hb.mono mo h2), mono_bin mo ha.mono hb.mono⟩
/-- a value as a test -/
def dTest (t : ED) : TD := fun env s Q => t env s fun x s1 => ∃ k, x = .bl k ∧ Q k s1
theorem mono_test {t : ED} (m : Mono t) : Mono (dTest t) := fun _ _ _ _ f h => m _ _ _ _ (fun _ _ ⟨k, e, q⟩ => ⟨k, e, f _ _ q⟩) h
theorem test_rd {X : DX} {t : ED} (m : Mono t) (σ : L2.St) (H : Hp) (Q : Bool → Hp → Prop) (h : rdT X.kk (dTest t) σ H Q) : rdE X.kk t σ H fun x H' => ∃ k, x = .bl k ∧ Q k H' := by
  obtain ⟨env, s, A, B, w, h⟩ := h
  refine rdE_go m w h fun x s1 v H1 A1 ⟨k, e, q⟩ w1 e1 dv => ?_
  subst e
  cases dv
  exact ⟨k, rfl, q H1 A1 w1.rs e1⟩
theorem ptd_cmp {X : DX} {op : CmpOp} {o : O2} (ho : OpX X (compareOp op) o) (mo : MonoO o) (ha : PD X a ta) (hb : PD X b tb) (hm : behindInMarks op b = false) : PTD X (.Compare a [op] [b] pos) (dTest (dBin o ta tb)) := by
  obtain ⟨r, h1, h2⟩ := ho
  have mb := mono_bin mo ha.mono hb.mono
  refine ⟨pt_imp (pt_cmpR h1 ha.pe hb.pe hm) fun σ H Q h => ?_, mono_test mb⟩
  show tOp r (rdE X.kk ta) (rdE X.kk tb) σ H (fun x H' => ∃ k, x = .bl k ∧ Q k H')
  exact bin_rd ha.mono hb.mono mo h2 σ H _ (test_rd mb σ H Q h)
theorem ptd_val {X : DX} {e : Expr} {t : ED} (h : PD X e t) (he : ∀ whole, isTrue e X.env whole = (do let v ← whole; standAt e.pos; holding [v] (truthy v)) := by intro _; rfl) : PTD X e (dTest t) :=
  ⟨pt_imp (pt_val h.pe he) fun σ H Q q => test_rd h.mono σ H Q q, mono_test h.mono⟩
/-- a op b op' c -/
def dChain (o o' : O2) (ta tb tc : ED) : ED := fun env s Q => ta env s fun x s1 => tb env s1 fun y s2 => o x y s2 fun z s3 => ∃ k, z = .bl k ∧ if k = true then tc env s3 fun u s4 => o' y u s4 Q else Q (.bl false) s3
theorem mono_chain {o o' : O2} (mo : MonoO o) (mo' : MonoO o') (ma : Mono ta) (mb : Mono tb) (mc : Mono tc) : Mono (dChain o o' ta tb tc) := fun env s P P' f h => ma _ _ _ _ (fun x s1 h1 => mb _ _ _ _ (fun y s2 h2 => mo _ _ _ _ _ (fun z s3 ⟨k, e, q⟩ => ⟨k, e, by
  cases k with
  | true => rw [if_pos rfl] at q ⊢; exact mc _ _ _ _ (fun u s4 h4 => mo' _ _ _ _ _ f h4) q
  | false => rw [if_neg Bool.false_ne_true] at q ⊢; exact f _ _ q⟩) h2) h1) h
theorem chain_rd {X : DX} {o o' : O2} {r r' : R2} (ma : Mono ta) (mb : Mono tb) (mc : Mono tc) (mo : MonoO o) (mo' : MonoO o') (l : ∀ (x y : D) (s : Sto) (v w : V) (H : Hp) (A B : List Addr) (Q : VK), RepS X.K B H A s → Dat X.K (Fz B H A s) A x v → Dat X.K (Fz B H A s) A y w → o x y s (PostE X.K B H A s Q) → r v w H Q)
    (l' : ∀ (x y : D) (s : Sto) (v w : V) (H : Hp) (A B : List Addr) (Q : VK), RepS X.K B H A s → Dat X.K (Fz B H A s) A x v → Dat X.K (Fz B H A s) A y w → o' x y s (PostE X.K B H A s Q) → r' v w H Q)
    (σ : L2.St) (H : Hp) (Q : VK) (h : rdE X.kk (dChain o o' ta tb tc) σ H Q) : tChain r r' (rdE X.kk ta) (rdE X.kk tb) (rdE X.kk tc) σ H Q := by
  obtain ⟨env, s, A, B, w, h⟩ := h
  refine rdE_go ma w h fun x s1 v H1 A1 h1 w1 e1 dv => ?_
  refine rdE_go mb w1 h1 fun y s2 u H2 A2 h2 w2 e2 du => ?_
  refine l x y s2 v u H2 A2 B _ w2.rs (dv.ext e2) du (mo _ _ _ _ _ (fun d s3 p z H3 A3 r3 e3 dz => ?_) h2)
  obtain ⟨k, ek, q⟩ := p
  subst ek
  cases dz
  refine ⟨k, rfl, ?_⟩
  have w3 := w2.to r3 e3
  cases k with
  | true =>
    rw [if_pos rfl] at q ⊢
    refine rdE_go mc w3 q fun t s4 g H4 A4 h4 w4 e4 dt => ?_
    exact l' y t s4 u g H4 A4 B Q w4.rs ((du.ext e3).ext e4) dt (mo' _ _ _ _ _ (fun d s' p => PostE.from ((e1.trans e2).trans (e3.trans e4)) p) h4)
  | false =>
    rw [if_neg Bool.false_ne_true] at q ⊢
    exact q _ _ _ w3.rs ((e1.trans e2).trans e3) (.bl false)
theorem pd_chain {X : DX} {op op' : CmpOp} {o o' : O2} (ho : OpX X (compareOp op) o) (mo : MonoO o) (ho' : OpX X (compareOp op') o') (mo' : MonoO o') (ha : PD X a ta) (hb : PD X b tb) (hc : PD X c tc)
    (hm : lastMarks [op, op'] [b, c] = false := by with_unfolding_all rfl) : PD X (.Compare a [op, op'] [b, c] pos) (dChain o o' ta tb tc) := by
  obtain ⟨r, h1, h2⟩ := ho
  obtain ⟨r', h1', h2'⟩ := ho'
  exact ⟨pe_imp (pe_chain h1 h1' ha.pe hb.pe hc.pe hm) (chain_rd ha.mono hb.mono hc.mono mo mo' h2 h2'), mono_chain mo mo' ha.mono hb.mono hc.mono⟩
theorem ptd_chain {X : DX} {op op' : CmpOp} {o o' : O2} (ho : OpX X (compareOp op) o) (mo : MonoO o) (ho' : OpX X (compareOp op') o') (mo' : MonoO o') (ha : PD X a ta) (hb : PD X b tb) (hc : PD X c tc)
    (hm : lastMarks [op, op'] [b, c] = false := by with_unfolding_all rfl) : PTD X (.Compare a [op, op'] [b, c] pos) (dTest (dChain o o' ta tb tc)) := by
  obtain ⟨r, h1, h2⟩ := ho
  obtain ⟨r', h1', h2'⟩ := ho'
  have mm := mono_chain mo mo' ha.mono hb.mono hc.mono
  refine ⟨pt_imp (pt_chain h1 h1' ha.pe hb.pe hc.pe hm) fun σ H Q h => ?_, mono_test mm⟩
  show tChain r r' (rdE X.kk ta) (rdE X.kk tb) (rdE X.kk tc) σ H (fun x H' => ∃ k, x = .bl k ∧ Q k H')
  exact chain_rd ha.mono hb.mono hc.mono mo mo' h2 h2' σ H _ (test_rd mm σ H Q h)
variable {rest : List Expr} {uA uB : TD}
def dAnd (t u : TD) : TD := fun env s Q => t env s fun k s1 => if k = true then u env s1 Q else Q false s1
def dOr (t u : TD) : TD := fun env s Q => t env s fun k s1 => if k = true then Q true s1 else u env s1 Q
def dNot (t : TD) : TD := fun env s Q => t env s fun k s1 => Q (!k) s1
theorem mono_and {t u : TD} (mt : Mono t) (mu : Mono u) : Mono (dAnd t u) := fun env s P P' f h => mt _ _ _ _ (fun k s1 q => by
  cases k with
  | true => rw [if_pos rfl] at q ⊢; exact mu _ _ _ _ f q
  | false => rw [if_neg Bool.false_ne_true] at q ⊢; exact f _ _ q) h
theorem mono_or {t u : TD} (mt : Mono t) (mu : Mono u) : Mono (dOr t u) := fun env s P P' f h => mt _ _ _ _ (fun k s1 q => by
  cases k with
  | false => rw [if_neg Bool.false_ne_true] at q ⊢; exact mu _ _ _ _ f q
  | true => rw [if_pos rfl] at q ⊢; exact f _ _ q) h
theorem mono_not {t : TD} (mt : Mono t) : Mono (dNot t) := fun env s P P' f h => mt _ _ _ _ (fun k s1 q => f _ _ q) h
theorem and_rd {X : DX} {t u : TD} (mt : Mono t) (mu : Mono u) (σ : L2.St) (H : Hp) (Q : Bool → Hp → Prop) (h : rdT X.kk (dAnd t u) σ H Q) : tAnd (rdT X.kk t) (rdT X.kk u) σ H Q := by
  obtain ⟨env, s, A, B, w, h⟩ := h
  refine rdT_go mt w h fun k s1 H1 A1 h1 w1 e1 => ?_
  cases k with
  | true =>
    rw [if_pos rfl] at h1 ⊢
    exact rdT_go mu w1 h1 fun k s2 H2 A2 h2 w2 e2 => h2 H2 A2 w2.rs (e1.trans e2)
  | false => rw [if_neg Bool.false_ne_true] at h1 ⊢; exact h1 H1 A1 w1.rs e1
theorem or_rd {X : DX} {t u : TD} (mt : Mono t) (mu : Mono u) (σ : L2.St) (H : Hp) (Q : Bool → Hp → Prop) (h : rdT X.kk (dOr t u) σ H Q) : tOr (rdT X.kk t) (rdT X.kk u) σ H Q := by
  obtain ⟨env, s, A, B, w, h⟩ := h
  refine rdT_go mt w h fun k s1 H1 A1 h1 w1 e1 => ?_
  cases k with
  | false =>
    rw [if_neg Bool.false_ne_true] at h1 ⊢
    exact rdT_go mu w1 h1 fun k s2 H2 A2 h2 w2 e2 => h2 H2 A2 w2.rs (e1.trans e2)
  | true => rw [if_pos rfl] at h1 ⊢; exact h1 H1 A1 w1.rs e1
theorem pwd_and1 {X : DX} (ha : PTD X a uA) : PWD X (.BoolOp .And [a] pos) uA := ⟨pw_and1 ha.pt, ha.mono⟩
theorem pwd_or1 {X : DX} (ha : PTD X a uA) : PWD X (.BoolOp .Or [a] pos) uA := ⟨pw_or1 ha.pt, ha.mono⟩
theorem pwd_and {X : DX} (ha : PTD X a uA) (hb : PWD X (.BoolOp .And (b :: rest) pos) uB) : PWD X (.BoolOp .And (a :: b :: rest) pos) (dAnd uA uB) :=
  ⟨pw_imp (pw_and ha.pt hb.pw) (and_rd ha.mono hb.mono), mono_and ha.mono hb.mono⟩
theorem pwd_or {X : DX} (ha : PTD X a uA) (hb : PWD X (.BoolOp .Or (b :: rest) pos) uB) : PWD X (.BoolOp .Or (a :: b :: rest) pos) (dOr uA uB) :=
  ⟨pw_imp (pw_or ha.pt hb.pw) (or_rd ha.mono hb.mono), mono_or ha.mono hb.mono⟩
theorem ptd_w {X : DX} {e : Expr} {t : TD} (h : PWD X e t) : PTD X e t := ⟨h.pw.pt, h.mono⟩
theorem ptd_not {X : DX} (ha : PTD X a uA) : PTD X (.UnaryOp .Not a pos) (dNot uA) :=
  ⟨pt_imp (pt_not ha.pt) fun σ H Q ⟨env, s, A, B, w, h⟩ => rdT_go ha.mono w h fun k s1 H1 A1 h1 w1 e1 => h1 H1 A1 w1.rs e1, mono_not ha.mono⟩
/-- as values -/
def dAndV (ta tb : ED) : ED := fun env s Q => ta env s fun x s1 => ∃ k, x = .bl k ∧ if k = true then tb env s1 Q else Q (.bl false) s1
def dOrV (ta tb : ED) : ED := fun env s Q => ta env s fun x s1 => ∃ k, x = .bl k ∧ if k = true then Q (.bl true) s1 else tb env s1 Q
def dNotV (ta : ED) : ED := fun env s Q => ta env s fun x s1 => ∃ k, x = .bl k ∧ Q (.bl (!k)) s1
theorem mono_andV (ma : Mono ta) (mb : Mono tb) : Mono (dAndV ta tb) := fun env s P P' f h => ma _ _ _ _ (fun k s1 ⟨j, e, q⟩ => ⟨j, e, by
  cases j with
  | true => rw [if_pos rfl] at q ⊢; exact mb _ _ _ _ f q
  | false => rw [if_neg Bool.false_ne_true] at q ⊢; exact f _ _ q⟩) h
theorem mono_orV (ma : Mono ta) (mb : Mono tb) : Mono (dOrV ta tb) := fun env s P P' f h => ma _ _ _ _ (fun k s1 ⟨j, e, q⟩ => ⟨j, e, by
  cases j with
  | false => rw [if_neg Bool.false_ne_true] at q ⊢; exact mb _ _ _ _ f q
  | true => rw [if_pos rfl] at q ⊢; exact f _ _ q⟩) h
theorem mono_notV (ma : Mono ta) : Mono (dNotV ta) := fun env s P P' f h => ma _ _ _ _ (fun k s1 ⟨j, e, q⟩ => ⟨j, e, f _ _ q⟩) h
theorem pd_and {X : DX} (ha : PD X a ta) (hb : PD X (.BoolOp .And (b :: rest) pos) tb) : PD X (.BoolOp .And (a :: b :: rest) pos) (dAndV ta tb) :=
  ⟨pe_imp (pe_and ha.pe hb.pe) fun σ H Q ⟨env, s, A, B, w, h⟩ => rdE_go ha.mono w h fun x s1 v H1 A1 ⟨k, ek, q⟩ w1 e1 dv => by
    subst ek
    cases dv
    refine ⟨k, rfl, ?_⟩
    cases k with
    | true => rw [if_pos rfl] at q ⊢; exact rdE_go hb.mono w1 q fun x s2 v H2 A2 h2 w2 e2 dv => h2 v H2 A2 w2.rs (e1.trans e2) dv
    | false => rw [if_neg Bool.false_ne_true] at q ⊢; exact q _ H1 A1 w1.rs e1 (.bl false), mono_andV ha.mono hb.mono⟩
theorem pd_or {X : DX} (ha : PD X a ta) (hb : PD X (.BoolOp .Or (b :: rest) pos) tb) : PD X (.BoolOp .Or (a :: b :: rest) pos) (dOrV ta tb) :=
  ⟨pe_imp (pe_or ha.pe hb.pe) fun σ H Q ⟨env, s, A, B, w, h⟩ => rdE_go ha.mono w h fun x s1 v H1 A1 ⟨k, ek, q⟩ w1 e1 dv => by
    subst ek
    cases dv
    refine ⟨k, rfl, ?_⟩
    cases k with
    | false => rw [if_neg Bool.false_ne_true] at q ⊢; exact rdE_go hb.mono w1 q fun x s2 v H2 A2 h2 w2 e2 dv => h2 v H2 A2 w2.rs (e1.trans e2) dv
    | true => rw [if_pos rfl] at q ⊢; exact q _ H1 A1 w1.rs e1 (.bl true), mono_orV ha.mono hb.mono⟩
theorem pd_one {X : DX} {op : PySem.BoolOp} (ha : PD X a ta) : PD X (.BoolOp op [a] pos) ta := ⟨pe_one ha.pe, ha.mono⟩
theorem pd_not {X : DX} (ha : PD X a ta) : PD X (.UnaryOp .Not a pos) (dNotV ta) :=
  ⟨pe_imp (pe_not ha.pe) fun σ H Q ⟨env, s, A, B, w, h⟩ => rdE_go ha.mono w h fun x s1 v H1 A1 ⟨k, ek, q⟩ w1 e1 dv => by
    subst ek
    cases dv
    exact ⟨k, rfl, q _ H1 A1 w1.rs e1 (.bl _)⟩, mono_notV ha.mono⟩
def dIf (t : TD) (ta tb : ED) : ED := fun env s Q => t env s fun k s1 => if k = true then ta env s1 Q else tb env s1 Q
theorem mono_if {t : TD} (mt : Mono t) (ma : Mono ta) (mb : Mono tb) : Mono (dIf t ta tb) := fun env s P P' f h => mt _ _ _ _ (fun k s1 q => by
  cases k with
  | true => rw [if_pos rfl] at q ⊢; exact ma _ _ _ _ f q
  | false => rw [if_neg Bool.false_ne_true] at q ⊢; exact mb _ _ _ _ f q) h
theorem pd_if {X : DX} {t : TD} (hc : PTD X c t) (ha : PD X a ta) (hb : PD X b tb) : PD X (.IfExp c a b pos) (dIf t ta tb) :=
  ⟨pe_imp (pe_ifExp hc.pt ha.pe hb.pe) fun σ H Q ⟨env, s, A, B, w, h⟩ => rdT_go hc.mono w h fun k s1 H1 A1 q w1 e1 => by
    cases k with
    | true => rw [if_pos rfl] at q ⊢; exact rdE_go ha.mono w1 q fun x s2 v H2 A2 h2 w2 e2 dv => h2 v H2 A2 w2.rs (e1.trans e2) dv
    | false => rw [if_neg Bool.false_ne_true] at q ⊢; exact rdE_go hb.mono w1 q fun x s2 v H2 A2 h2 w2 e2 dv => h2 v H2 A2 w2.rs (e1.trans e2) dv, mono_if hc.mono ha.mono hb.mono⟩
def dUn (f : Sto → D → Option D) (ta : ED) : ED := fun env s Q => ta env s fun x s1 => ∃ z, f s1 x = some z ∧ Q z s1
theorem mono_un {f : Sto → D → Option D} (ma : Mono ta) : Mono (dUn f ta) := fun _ _ _ _ g h => ma _ _ _ _ (fun _ _ ⟨z, e, q⟩ => ⟨z, e, g _ _ q⟩) h
def dNil : AD := fun _ s Q => Q [] s
def dCons (ta : ED) (tr : AD) : AD := fun env s Q => ta env s fun x s1 => tr env s1 fun xs s2 => Q (x :: xs) s2
theorem mono_nil : Mono dNil := fun _ _ _ _ f h => f _ _ h
theorem mono_cons {tr : AD} (ma : Mono ta) (mr : Mono tr) : Mono (dCons ta tr) := fun _ _ _ _ f h => ma _ _ _ _ (fun _ _ h1 => mr _ _ _ _ (fun _ _ h2 => f _ _ h2) h1) h
theorem pad_nil {X : DX} : PAD X [] dNil := ⟨pa_imp pa_nil fun σ H Q ⟨env, s, A, B, w, q⟩ => q _ _ _ w.rs .refl .nil, mono_nil⟩
theorem pad_cons {X : DX} {es : List Expr} {tr : AD} (ha : PD X a ta) (hr : PAD X es tr) (hs : starEach (a :: es) X.env = (false, eval a X.env) :: starEach es X.env := by rfl) : PAD X (a :: es) (dCons ta tr) :=
  ⟨pa_imp (pa_cons ha.pe hr.pa hs) fun σ H Q ⟨env, s, A, B, w, h⟩ => rdE_go ha.mono w h fun x s1 v H1 A1 h1 w1 e1 dv => rdA_go hr.mono w1 h1 fun xs s2 vs H2 A2 h2 w2 e2 dvs => h2 _ H2 A2 w2.rs (e1.trans e2) (.cons (dv.ext e2) dvs), mono_cons ha.mono hr.mono⟩
variable {es : List Expr} {t : AD}
def dTup (t : AD) : ED := fun env s Q => t env s fun xs s1 => xs.length ≤ sizeLine ∧ Q (.tup xs) s1
theorem mono_tup (m : Mono t) : Mono (dTup t) := fun _ _ _ _ f h => m _ _ _ _ (fun _ _ ⟨l, q⟩ => ⟨l, f _ _ q⟩) h
theorem pd_tup {X : DX} {x1} (h : PAD X es t) : PD X (.Tuple es x1 pos) (dTup t) :=
  ⟨pe_imp (pe_tup h.pa) fun σ H Q ⟨env, s, A, B, w, q⟩ => rdA_go h.mono w q fun xs s1 vs H1 A1 ⟨hl, q1⟩ w1 e1 dvs => ⟨by rw [dvs.length]; exact hl, fun p hp => by
    obtain ⟨r2, e2, f2⟩ := w1.rs.laid (o := .tup vs) hp
    exact q1 _ _ _ r2 (e1.trans e2) (.tup (.of f2) (dvs.ext e2))⟩, mono_tup h.mono⟩
/-- a list that is never changed -/
def dLst (t : AD) : ED := fun env s Q => t env s fun xs s1 => xs.length ≤ sizeLine ∧ Q (.lst xs) s1
theorem mono_lst (m : Mono t) : Mono (dLst t) := fun _ _ _ _ f h => m _ _ _ _ (fun _ _ ⟨l, q⟩ => ⟨l, f _ _ q⟩) h
theorem pd_lst {X : DX} (h : PAD X es t) : PD X (.List es pos) (dLst t) :=
  ⟨pe_imp (pe_lst h.pa) fun σ H Q ⟨env, s, A, B, w, q⟩ => rdA_go h.mono w q fun xs s1 vs H1 A1 ⟨hl, q1⟩ w1 e1 dvs => ⟨by rw [dvs.length]; exact hl, fun p hp => by
    obtain ⟨r2, e2, f2⟩ := w1.rs.laid (o := .lst vs) hp
    exact q1 _ _ _ r2 (e1.trans e2) (.lst f2 (dvs.ext e2))⟩, mono_lst h.mono⟩
/-- a list that may change -/
def dNew (t : AD) : ED := fun env s Q => t env s fun xs s1 => xs.length ≤ sizeLine ∧ Q (.ref s1.length) (s1 ++ [some (.lst xs)])
theorem mono_new (m : Mono t) : Mono (dNew t) := fun _ _ _ _ f h => m _ _ _ _ (fun _ _ ⟨l, q⟩ => ⟨l, f _ _ q⟩) h
theorem pd_new {X : DX} (h : PAD X es t) : PD X (.List es pos) (dNew t) :=
  ⟨pe_imp (pe_lst h.pa) fun σ H Q ⟨env, s, A, B, w, q⟩ => rdA_go h.mono w q fun xs s1 vs H1 A1 ⟨hl, q1⟩ w1 e1 dvs => ⟨by rw [dvs.length]; exact hl, fun p hp => by
    obtain ⟨r2, e2⟩ := w1.rs.born (o := .lst vs) (mo := .lst xs) hp ⟨vs, upd_same, dvs⟩
    exact q1 _ _ _ r2 (e1.trans e2) (.ref (by rw [← w1.rs.len]; simp))⟩, mono_new h.mono⟩
/-- what changed changes no more -/
def dFrz (ta : ED) : ED := fun env s Q => ta env s fun x s1 => ∃ l xs, x = .ref l ∧ s1[l]? = some (some (.lst xs)) ∧ Q (.lst xs) (s1.set l none)
theorem mono_frz (ma : Mono ta) : Mono (dFrz ta) := fun _ _ _ _ f h => ma _ _ _ _ (fun _ _ ⟨l, xs, e, g, q⟩ => ⟨l, xs, e, g, f _ _ q⟩) h
theorem pd_frz {X : DX} (ha : PD X a ta) : PD X a (dFrz ta) :=
  ⟨pe_imp ha.pe fun σ H Q ⟨env, s, A, B, w, h⟩ => rdE_go ha.mono w h fun x s1 v H1 A1 ⟨l, xs, ex, hl, q⟩ w1 e1 dv => by
    subst ex
    cases dv with
    | ref hA =>
      obtain ⟨a', ha', vs, hv, dvs⟩ := w1.rs.ob l _ hl
      rw [hA] at ha'; cases ha'
      obtain ⟨r2, e2, f2⟩ := w1.rs.freeze hl hA
      exact q _ _ _ r2 (e1.trans e2) (.lst (f2 _ hv) (dvs.ext e2)), mono_frz ha.mono⟩
end
end Dl
set_option Elab.async false
set_option linter.all false
set_option autoImplicit false
set_option maxRecDepth 100000
set_option maxHeartbeats 4000000
namespace Dl
open PySem PySem.Spec PyProof.Rows L2
abbrev GD := D → En → Sto → (En → Sto → Prop) → Prop
def rdG (K : KK) (t : GD) : TG := fun v σ H Q => ∃ (env : En) (s : Sto) (A B : List Addr) (d : D), Wo K B H A s env σ ∧ Dat K (Fz B H A s) A d v ∧ t d env s (PostN K B H A s Q)
def MonoG (t : GD) : Prop := ∀ d env s P P', (∀ e s', P e s' → P' e s') → t d env s P → t d env s P'
structure PGD (X : DX) (e : Expr) (t : GD) : Prop where
  pg : PG X e (rdG X.kk t)
  mono : MonoG t
theorem pg_imp {X : Cx} {e : Expr} {t t' : TG} (h : PG X e t) (f : ∀ v σ H Q, t' v σ H Q → t v σ H Q) : PG X e t' := ⟨fun pins s σ H v u Q I r q => h.run pins s σ H v u Q I r (f v σ H Q q)⟩
section
variable {pos : Pos}
def gN (i : Nat) : GD := fun d env s Q => Q (env.set i (some d)) s
theorem mono_gN {i : Nat} : MonoG (gN i) := fun _ _ _ _ _ f h => f _ _ h
theorem pgd_name {X : DX} {i : Nat} {e : Expr} (h : PG X e (gName i)) : PGD X e (gN i) := ⟨pg_imp h fun v σ H Q ⟨env, s, A, B, d, w, dv, q⟩ => q _ H A w.rs .refl (w.re.set i dv), mono_gN⟩
/-- several names -/
def setE (env : En) : List Nat → List D → En
  | i :: is, d :: ds => setE (env.set i (some d)) is ds
  | _, _ => env
def setS (σ : L2.St) : List Nat → List V → L2.St
  | i :: is, v :: vs => setS (σ.set i (some v)) is vs
  | _, _ => σ
theorem RepE.sets {K : PySem.W.Frag} {F : Hp} {A : List Addr} : ∀ {is : List Nat} {ds : List D} {vs : List V} {env : En} {σ : L2.St}, RepE K F A env σ → DatL K F A ds vs → RepE K F A (setE env is ds) (setS σ is vs)
  | [], _, _, _, _, h, _ => by unfold setE setS; exact h
  | _ :: _, [], _, _, _, h, d => by cases d; unfold setE setS; exact h
  | i :: is, e :: ds, _, _, _, h, d => by
    cases d with
    | cons d1 d2 =>
      unfold setE setS
      exact RepE.sets (h.set i d1) d2
def gNames (is : List Nat) : TGs := fun vs σ H Q => vs.length = is.length ∧ Q (setS σ is vs) H
theorem pgs_imp {X : Cx} {es : List Expr} {t t' : TGs} (h : PGs X es t) (f : ∀ v σ H Q, t' v σ H Q → t v σ H Q) : PGs X es t' := ⟨fun pins s σ H v u Q I r q => h.run pins s σ H v u Q I r (f v σ H Q q)⟩
theorem pgs_n0 {X : Cx} : PGs X [] (gNames []) := pgs_imp pgs_nil fun vs σ H Q ⟨hl, q⟩ => by
  have e : vs = [] := List.eq_nil_of_length_eq_zero hl
  subst e
  exact ⟨rfl, q⟩
theorem pgs_n1 {X : Cx} {i : Nat} {is : List Nat} {e : Expr} {es : List Expr} (h1 : PG X e (gName i)) (h2 : PGs X es (gNames is)) (hs : (assignEach (e :: es) X.env).map (·.2) = assign e X.env :: (assignEach es X.env).map (·.2) := by rfl) :
    PGs X (e :: es) (gNames (i :: is)) := pgs_imp (pgs_cons h1 h2 hs) fun vs σ H Q ⟨hl, q⟩ => by
  cases vs with
  | nil => simp at hl
  | cons v vs => exact ⟨v, vs, rfl, by simpa using hl, q⟩
def gTs (is : List Nat) : GD := fun d env s Q => ∃ ds, d = .tup ds ∧ ds.length = is.length ∧ Q (setE env is ds) s
theorem mono_gTs {is : List Nat} : MonoG (gTs is) := fun _ _ _ _ _ f ⟨ds, e, l, q⟩ => ⟨ds, e, l, f _ _ q⟩
theorem pgd_tup {X : DX} {es : List Expr} {k : Nat} {is : List Nat} (hc : X.calm = true) (h : PGs X es (gNames is)) (hn : (assignEach es X.env).length = is.length := by rfl) (hst : (assignEach es X.env).findIdx? (·.1) = none := by rfl) : PGD X (.Tuple es k pos) (gTs is) :=
  ⟨pg_imp (pg_tup hc h hn hst) fun v σ H Q ⟨env, s, A, B, d, w, dv, ds, ed, hl, q⟩ => by
    subst ed
    cases dv with
    | tup hs hd => exact ⟨_, _, rfl, sqT_fz hs, by rw [hd.length]; exact hl, by rw [hd.length]; exact hl, q _ H A w.rs .refl (w.re.sets hd)⟩, mono_gTs⟩
/-- l[i] = .. in a list of the store -/
def gIx (to ti : ED) : GD := fun d env s Q => to env s fun o s1 => ti env s1 fun i s2 => ∃ l xs k j, o = .ref l ∧ i = .int k ∧ s2[l]? = some (some (.lst xs)) ∧ ixN xs.length k = some j ∧ Q env (s2.set l (some (.lst (xs.set j d))))
theorem mono_gIx {to ti : ED} (mo : Mono to) (mi : Mono ti) : MonoG (gIx to ti) := fun _ _ _ _ _ f h => mo _ _ _ _ (fun _ _ h1 => mi _ _ _ _ (fun _ _ ⟨l, xs, k, j, e1, e2, e3, e4, q⟩ => ⟨l, xs, k, j, e1, e2, e3, e4, f _ _ q⟩) h1) h
theorem pgd_ix {X : DX} {o i : Expr} {to ti : ED} (ho : PD X o to) (hi : PD X i ti)
    (ha : ∀ v, assign (.Subscript o i pos) X.env v = (do
      let ov ← holding [v] (eval o X.env)
      let iv ← holding [v, ov] (eval i X.env)
      standAt pos
      holding [v, ov, iv] (setItem ov iv v)
      release [v, ov, iv] []) := by intro _; rfl) : PGD X (.Subscript o i pos) (gIx to ti) :=
  ⟨pg_imp (pg_sub ho.pe hi.pe set_list ha) fun v σ H Q ⟨env, s, A, B, d, w, dv, h⟩ => by
    refine rdE_go ho.mono w h fun x s1 vo H1 A1 h1 w1 e1 dvo => ?_
    refine rdE_go hi.mono w1 h1 fun y s2 vi H2 A2 ⟨l, xs, k, j, ex, ey, hl, hj, q⟩ w2 e2 dvi => ?_
    subst ex ey
    cases dvi
    cases dvo with
    | ref hA =>
      obtain ⟨a', ha', vs, hv, dvs⟩ := w2.rs.ob l _ hl
      rw [e2.pre _ _ hA] at ha'; cases ha'
      have dv2 := (dv.ext e1).ext e2
      obtain ⟨r3, e3⟩ := w2.rs.write (o := .lst (vs.set j v)) (mo' := .lst (xs.set j d)) hl (e2.pre _ _ hA) ⟨_, upd_same, dvs.set j dv2⟩
      exact ⟨_, vs, k, j, rfl, rfl, hv, by rw [dvs.length]; exact hj, q _ _ _ r3 ((e1.trans e2).trans e3) ((w2.to r3 e3).re)⟩, mono_gIx ho.mono hi.mono⟩
end
section
variable {st : Stmt} {rest : List Stmt} {t u : SD} {e : Expr} {te : ED} {pos : Pos}
def dNext : SD := fun E env s => E.nx env s
def dSeq (t u : SD) : SD := fun E env s => t { E with nx := u E } env s
theorem mono_next : MonoS dNext := fun _ _ _ _ l h => l.nx _ _ h
theorem mono_seq (mt : MonoS t) (mu : MonoS u) : MonoS (dSeq t u) := fun a b env s l h => mt { a with nx := u a } { b with nx := u b } env s ⟨fun e s h => mu _ _ _ _ l h, l.rt, l.bk, l.ct⟩ h
theorem pssd_nil {X : DX} : PSsD X [] dNext := ⟨pss_imp pss_nil fun D σ H ⟨env, s, A, B, w, h⟩ => h _ _ _ w.rs .refl w.re, mono_next⟩
theorem seq_le {K : KK} {B : List Addr} {H : Hp} {A : List Addr} {s : Sto} {D : Ends} {u : SD} (mu : MonoS u) (z : K.Z B H A s) : EndsD.Le { PostS K.K B H A s D with nx := u (PostS K.K B H A s D) } (PostS K.K B H A s { D with nx := rdS K u D }) :=
  ⟨fun e s' h σ H' A' r x re => ⟨e, s', A', B, ⟨r, re, K.zc z x⟩, mu _ _ _ _ (PostS.from x) h⟩, fun _ _ h => h, fun _ _ h => h, fun _ _ h => h⟩
theorem pssd_cons {X : DX} (h1 : PSD X st t) (h2 : PSsD X rest u) : PSsD X (st :: rest) (dSeq t u) :=
  ⟨pss_imp (pss_cons h1.ps h2.pss) fun D σ H ⟨env, s, A, B, w, h⟩ => ⟨env, s, A, B, w, h1.mono _ _ _ _ (seq_le (K := X.kk) h2.mono w.z) h⟩, mono_seq h1.mono h2.mono⟩
theorem pssd_one {X : DX} (h1 : PSD X st t) : PSsD X [st] t := ⟨pss_one h1.ps, h1.mono⟩
def dNever : SD := fun _ _ _ => False
theorem psd_never {X : DX} : PSD X st dNever := ⟨ps_imp ps_never fun D σ H ⟨_, _, _, _, _, h⟩ => h.elim, fun _ _ _ _ _ h => h.elim⟩
theorem pssd_never {X : DX} {sts : List Stmt} : PSsD X sts dNever := ⟨pss_imp pss_never fun D σ H ⟨_, _, _, _, _, h⟩ => h.elim, fun _ _ _ _ _ h => h.elim⟩
def dDrop (te : ED) : SD := fun E env s => te env s fun _ s1 => E.nx env s1
theorem psd_expr {X : DX} (he : PD X e te) (hs : swapsWith e none pos.line X.env = pure false := by rfl) : PSD X (.Expr e pos) (dDrop te) :=
  ⟨ps_imp (ps_expr he.pe hs) fun D σ H ⟨env, s, A, B, w, h⟩ => rdE_go he.mono w h fun d s1 v H1 A1 q w1 e1 dv => q σ H1 A1 w1.rs e1 w1.re, fun _ _ _ _ l h => he.mono _ _ _ _ (fun _ _ q => l.nx _ _ q) h⟩
def dRet (te : ED) : SD := fun E env s => te env s E.rt
theorem psd_ret {X : DX} (he : PD X e te) : PSD X (.Return (some e) pos) (dRet te) := ⟨ps_imp (ps_ret he.pe) fun D σ H ⟨env, s, A, B, w, h⟩ => ⟨env, s, A, B, w, h⟩, fun _ _ _ _ l h => he.mono _ _ _ _ (fun _ _ q => l.rt _ _ q) h⟩
def dRetN : SD := fun E _ s => E.rt .non s
theorem psd_retN {X : DX} : PSD X (.Return none pos) dRetN := ⟨ps_imp ps_retN fun D σ H ⟨env, s, A, B, w, h⟩ => h _ _ _ w.rs .refl .non, fun _ _ _ _ l h => l.rt _ _ h⟩
def dIfS (c : TD) (t u : SD) : SD := fun E env s => c env s fun b s1 => if b = true then t E env s1 else u E env s1
theorem mono_ifS {c : TD} (mc : Mono c) (mt : MonoS t) (mu : MonoS u) : MonoS (dIfS c t u) := fun a b env s l h => mc _ _ _ _ (fun k s1 q => by
  cases k with
  | true => rw [if_pos rfl] at q ⊢; exact mt _ _ _ _ l q
  | false => rw [if_neg Bool.false_ne_true] at q ⊢; exact mu _ _ _ _ l q) h
theorem psd_if {X : DX} {c : Expr} {a b : List Stmt} {tc : TD} (hc : PTD X c tc) (ha : PSsD X a t) (hb : PSsD X b u) : PSD X (.If c a b pos) (dIfS tc t u) :=
  ⟨ps_imp (ps_if hc.pt ha.pss hb.pss) fun D σ H ⟨env, s, A, B, w, h⟩ => rdT_go hc.mono w h fun k s1 H1 A1 q w1 e1 => by
    cases k with
    | true => rw [if_pos rfl] at q ⊢; exact ⟨env, s1, A1, B, w1, ha.mono _ _ _ _ (PostS.from e1) q⟩
    | false => rw [if_neg Bool.false_ne_true] at q ⊢; exact ⟨env, s1, A1, B, w1, hb.mono _ _ _ _ (PostS.from e1) q⟩, mono_ifS hc.mono ha.mono hb.mono⟩
def dAsg (te : ED) (g : GD) : SD := fun E env s => te env s fun d s1 => g d env s1 E.nx
theorem mono_asg {g : GD} (me : Mono te) (mg : MonoG g) : MonoS (dAsg te g) := fun a b env s l h => me _ _ _ _ (fun d s1 q => mg _ _ _ _ _ l.nx q) h
theorem asg_rd {X : DX} {g : GD} {tg : Expr} (he : PD X e te) (hg : PGD X tg g) (D : Ends) (σ : L2.St) (H : Hp) (h : rdS X.kk (dAsg te g) D σ H) : tAsg (rdE X.kk te) (rdG X.kk g) D σ H := by
  obtain ⟨env, s, A, B, w, h⟩ := h
  exact rdE_go he.mono w h fun d s1 v H1 A1 q w1 e1 dv => ⟨env, s1, A1, B, d, w1, dv, hg.mono _ _ _ _ _ (fun en s' p => PostN.from e1 p) q⟩
theorem psd_asg {X : DX} {g : GD} {tg : Expr} (he : PD X e te) (hg : PGD X tg g) (hs : swapsWithSole [tg] e pos.line X.env = pure false := by rfl) (hw : swappedStores [tg] e X.env = pure none := by rfl) (h1 : (assignEach [tg] X.env).map (·.2) = [assign tg X.env] := by rfl) :
    PSD X (.Assign [tg] e pos) (dAsg te g) := ⟨ps_imp (ps_asg he.pe hg.pg hs hw h1) (asg_rd he hg), mono_asg he.mono hg.mono⟩
theorem set_rd {X : DX} {i : Nat} (he : PD X e te) (D : Ends) (σ : L2.St) (H : Hp) (h : rdS X.kk (dAsg te (gN i)) D σ H) : tAsg (rdE X.kk te) (gName i) D σ H := by
  obtain ⟨env, s, A, B, w, h⟩ := h
  exact rdE_go he.mono w h fun d s1 v H1 A1 q w1 e1 dv => q _ _ _ w1.rs e1 (w1.re.set i dv)
theorem psd_set {X : DX} {i : Nat} {x : Str} {pos' : Pos} (hN : X.N.Nodup) (hi : X.N[i]? = some x) (hx : Loc X.env.scope x) (he : PD X e te) (hs : swapsWith e (some (.Name x pos')) pos.line X.env = pure false := by rfl) (hf : X.fn x = true ∨ X.env.scope.names.lookup x = some .local := by first | exact .inl rfl | exact .inr rfl | assumption) :
    PSD X (.Assign [.Name x pos'] e pos) (dAsg te (gN i)) := ⟨ps_imp (ps_set hN hi hx he.pe hs hf) (set_rd he), mono_asg he.mono mono_gN⟩
/-- name op= e -/
def dAug (i : Nat) (o : O2) (te : ED) : SD := fun E env s => ∃ x, env[i]? = some (some x) ∧ te env s fun y s1 => o x y s1 fun z s2 => E.nx (env.set i (some z)) s2
def dWhile (c : TD) (t : SD) : SD := fun E env s => ∃ W : Nat → En → Sto → Prop, (∃ m, W m env s) ∧ ∀ m env s, W m env s →
  c env s fun b s1 => if b = true then ∃ N : En → Sto → Prop, (∀ e' s', N e' s' → ∃ m', m' < m ∧ W m' e' s') ∧ t ⟨N, E.rt, E.nx, N⟩ env s1 else E.nx env s1
theorem mono_while {c : TD} (mc : Mono c) (mt : MonoS t) : MonoS (dWhile c t) := fun a b env s l ⟨W, w0, h⟩ => ⟨W, w0, fun m env s w => mc _ _ _ _ (fun k s1 q => by
  cases k with
  | true =>
    rw [if_pos rfl] at q ⊢
    obtain ⟨N, hN, q⟩ := q
    exact ⟨N, hN, mt ⟨N, a.rt, a.nx, N⟩ _ _ _ ⟨fun _ _ h => h, l.rt, l.nx, fun _ _ h => h⟩ q⟩
  | false => rw [if_neg Bool.false_ne_true] at q ⊢; exact l.nx _ _ q) (h m env s w)⟩
theorem psd_while {X : DX} {c : Expr} {body : List Stmt} {tc : TD} (hp : PassesOwn (model X.prog X.w) X.A X.env X.xe) (hc : PTD X c tc) (hb : PSsD X body t) : PSD X (.While c body [] pos) (dWhile tc t) := by
  refine ⟨ps_imp (ps_while hp hc.pt hb.pss) fun D σ H ⟨env, s, A, B, w, W, ⟨m, w0⟩, h⟩ => ?_, mono_while hc.mono hb.mono⟩
  refine ⟨fun m σ1 H1 => ∃ env1 s1 A1, Wo X.kk B H1 A1 s1 env1 σ1 ∧ Ext B H A s H1 A1 s1 ∧ W m env1 s1, ⟨m, env, s, A, w, .refl, w0⟩, ?_⟩
  rintro m σ1 H1 ⟨env1, s1, A1, w1, e1, wm⟩
  refine rdT_go hc.mono w1 (h m env1 s1 wm) fun k s2 H2 A2 q w2 e2 => ?_
  cases k with
  | true =>
    rw [if_pos rfl] at q ⊢
    obtain ⟨N, hN, q⟩ := q
    refine ⟨fun σ3 H3 => ∃ env3 s3 A3, Wo X.kk B H3 A3 s3 env3 σ3 ∧ Ext B H A s H3 A3 s3 ∧ N env3 s3, ?_, ?_⟩
    · rintro σ3 H3 ⟨env3, s3, A3, w3, e3, n3⟩
      obtain ⟨m', hm, wm'⟩ := hN _ _ n3
      exact ⟨m', hm, env3, s3, A3, w3, e3, wm'⟩
    · refine ⟨env1, s2, A2, B, w2, hb.mono _ _ _ _ ⟨fun e' s' n σ' H' A' r x re => ?_, fun d s' h => PostE.from (e1.trans e2) h, fun d s' h => PostN.from (e1.trans e2) h, fun e' s' n σ' H' A' r x re => ?_⟩ q⟩
      · exact ⟨e', s', A', ⟨r, re, X.zc w2.z x⟩, (e1.trans e2).trans x, n⟩
      · exact ⟨e', s', A', ⟨r, re, X.zc w2.z x⟩, (e1.trans e2).trans x, n⟩
  | false =>
    rw [if_neg Bool.false_ne_true] at q ⊢
    exact q _ _ _ w2.rs (e1.trans e2) w2.re
end
abbrev ID := En → Sto → (List D → (Sto → Prop) → Sto → Prop) → Prop
/-- the iterator J gives ds, in worlds behind this one in which g holds -/
def ItOk (K : PySem.W.Frag) (B : List Addr) (J : It) (ds : List D) (g : Sto → Prop) (H : Hp) (A : List Addr) (s : Sto) : Prop :=
  ∀ (B' : List Addr) (H' : Hp) (A' : List Addr) (s' : Sto), RepS K B' H' A' s' → Same (Fz B H A s) (Fz B' H' A' s') → (∀ (l : Nat) (a : Addr), A[l]? = some a → A'[l]? = some a) → g s' → ∀ i,
    (∀ d, ds[i]? = some d → J.go i H' ∧ ∀ x H2, J.yld i H' x H2 → RepS K B' H2 A' s' ∧ Ext B' H' A' s' H2 A' s' ∧ Dat K (Fz B' H2 A' s') A' d x) ∧ (ds.length ≤ i → J.stop i H')
def PostI (K : PySem.W.Frag) (B : List Addr) (H : Hp) (A : List Addr) (s : Sto) (R : It → Hp → Prop) : List D → (Sto → Prop) → Sto → Prop := fun ds g s' => ∀ (J : It) (H' : Hp) (A' : List Addr), RepS K B H' A' s' → Ext B H A s H' A' s' → ItOk K B J ds g H' A' s' → R J H'
def rdI (K : KK) (t : ID) : TI := fun σ H R => ∃ (env : En) (s : Sto) (A B : List Addr), Wo K B H A s env σ ∧ t env s (PostI K.K B H A s R)
def MonoI (t : ID) : Prop := ∀ env s P P', (∀ ds g s', P ds g s' → P' ds g s') → t env s P → t env s P'
structure PID (X : DX) (tg e : Expr) (t : ID) : Prop where
  pi : PI X tg e (rdI X.kk t)
  mono : MonoI t
theorem pi_imp {X : Cx} {tg e : Expr} {t t' : TI} (h : PI X tg e t) (f : ∀ σ H R, t' σ H R → t σ H R) : PI X tg e t' := ⟨fun pins s σ H R I q => h.run pins s σ H R I (f σ H R q)⟩
section
variable {pos : Pos} {tg e : Expr} {te : ED}
def noG : Sto → Prop := fun _ => True
theorem itok_list {K : PySem.W.Frag} {B : List Addr} {H : Hp} {A : List Addr} {s : Sto} {a : Addr} {vs : List V} {ds : List D} {g : Sto → Prop} (hs : ∀ B' H' A' s', RepS K B' H' A' s' → Same (Fz B H A s) (Fz B' H' A' s') → (∀ (l : Nat) (a : Addr), A[l]? = some a → A'[l]? = some a) → g s' → SqL K H' a vs)
    (hd : DatL K (Fz B H A s) A ds vs) : ItOk K B (Itl K a) ds g H A s := by
  intro B' H' A' s' R e p hg i
  have hs' := hs B' H' A' s' R e p hg
  refine ⟨fun d hi => ?_, fun hi => ⟨vs, hs', by rw [hd.length]; exact hi⟩⟩
  obtain ⟨v, hv, dv⟩ := hd.get hi
  refine ⟨⟨vs, v, hs', hv⟩, fun x H2 ⟨eH, hx⟩ => ?_⟩
  subst eH
  have := hx vs hs'
  rw [hv] at this; cases this
  exact ⟨R, .refl, dv.mono e p⟩
theorem itok_tup {K : PySem.W.Frag} {B : List Addr} {H : Hp} {A : List Addr} {s : Sto} {a : Addr} {vs : List V} {ds : List D} {g : Sto → Prop} (hs : ∀ B' H' A' s', RepS K B' H' A' s' → Same (Fz B H A s) (Fz B' H' A' s') → (∀ (l : Nat) (a : Addr), A[l]? = some a → A'[l]? = some a) → g s' → SqT K H' a vs)
    (hd : DatL K (Fz B H A s) A ds vs) : ItOk K B (Itt K a) ds g H A s := by
  intro B' H' A' s' R e p hg i
  have hs' := hs B' H' A' s' R e p hg
  refine ⟨fun d hi => ?_, fun hi => ⟨vs, hs', by rw [hd.length]; exact hi⟩⟩
  obtain ⟨v, hv, dv⟩ := hd.get hi
  refine ⟨⟨vs, v, hs', hv⟩, fun x H2 ⟨eH, hx⟩ => ?_⟩
  subst eH
  have := hx vs hs'
  rw [hv] at this; cases this
  exact ⟨R, .refl, dv.mono e p⟩
/-- a list: a datum, or one of the store that stays -/
def isL (s : Sto) (x : D) (ds : List D) (g : Sto → Prop) : Prop := (x = .lst ds ∧ g = noG) ∨ (x = .frl ds ∧ g = noG) ∨ ∃ l, x = .ref l ∧ s[l]? = some (some (.lst ds)) ∧ g = fun s' => s'[l]? = some (some (.lst ds))
theorem isL_rd {K : PySem.W.Frag} {B : List Addr} {H : Hp} {A : List Addr} {s : Sto} {x : D} {v : V} {ds : List D} {g : Sto → Prop} (R : RepS K B H A s) (dv : Dat K (Fz B H A s) A x v) (h : isL s x ds g) :
    ∃ a vs, v = .ref a ∧ SqL K H a vs ∧ DatL K (Fz B H A s) A ds vs ∧ ItOk K B (Itl K a) ds g H A s := by
  rcases h with ⟨rfl, rfl⟩ | ⟨rfl, rfl⟩ | ⟨l, rfl, hl, rfl⟩
  · cases dv with
    | lst hs hd => exact ⟨_, _, rfl, sqL_fz (.of hs), hd, itok_list (fun B' H' A' s' R' e p _ => sqL_fz (e.seq (.of hs))) hd⟩
  · cases dv with
    | frl hs hd => exact ⟨_, _, rfl, sqL_fz hs.seq, hd, itok_list (fun B' H' A' s' R' e p _ => sqL_fz (e.seq hs.seq)) hd⟩
  · cases dv with
    | ref hA =>
      obtain ⟨a', ha', vs, hv, hd⟩ := R.ob l _ hl
      rw [hA] at ha'; cases ha'
      refine ⟨_, vs, rfl, .of hv, hd, ?_⟩
      intro B' H' A' s' R' e p hg i
      obtain ⟨a2, ha2, vs', hv', hd'⟩ := R'.ob l _ hg
      rw [p _ _ hA] at ha2; cases ha2
      refine ⟨fun d hi => ?_, fun hi => ⟨vs', .of hv', by rw [hd'.length]; exact hi⟩⟩
      obtain ⟨v, hw, dw⟩ := hd'.get hi
      refine ⟨⟨vs', v, .of hv', hw⟩, fun x H2 ⟨eH, hx⟩ => ?_⟩
      subst eH
      have := hx vs' (.of hv')
      rw [hw] at this; cases this
      exact ⟨R', .refl, dw⟩
/-- range(n) -/
def rangeD (lo : Int) (n : Nat) : List D := (List.range n).map fun i => .int (lo + (i : Nat))
theorem itok_range {K : PySem.W.Frag} {B : List Addr} {H : Hp} {A : List Addr} {s : Sto} {lo : Int} {n : Nat} : ItOk K B (Itr lo n) (rangeD lo n) noG H A s := by
  intro B' H' A' s' R e p hg i
  refine ⟨fun d hi => ?_, fun hi => show n ≤ i by simpa [rangeD] using hi⟩
  have hn : i < n := by
    have := (List.getElem?_eq_some_iff.mp hi).1
    simpa [rangeD] using this
  have hd : d = .int (lo + (i : Nat)) := by
    simp [rangeD, hn] at hi
    exact hi.symm
  refine ⟨hn, fun x H2 ⟨eH, hx⟩ => ?_⟩
  subst eH hx hd
  exact ⟨R, .refl, .int _⟩
def iR1 (t : AD) : ID := fun env s R => t env s fun xs s1 => ∃ j : Int, xs = [.int j] ∧ -(2 ^ 62) ≤ j ∧ j < 2 ^ 62 ∧ R (rangeD 0 j.toNat) noG s1
theorem mono_iR1 {t : AD} (m : Mono t) : MonoI (iR1 t) := fun _ _ _ _ f h => m _ _ _ _ (fun _ _ ⟨j, e, a, b, q⟩ => ⟨j, e, a, b, f _ _ _ q⟩) h
theorem pid_range1 {X : DX} {a : Expr} {t : AD} {p : Pos} (hg : Gl X "range") (hm : X.mg "range" = none) (ha : PAD X [a] t) (hs : starEach [a] X.env = [(false, eval a X.env)] := by rfl) : PID X tg (.Call (.Name "range" p) [a] [] pos) (iR1 t) :=
  ⟨pi_imp (pi_range1 hg hm ha.pa hs) fun σ H R ⟨env, s, A, B, w, h⟩ => rdA_go ha.mono w h fun xs s1 vs H1 A1 ⟨j, ex, h1, h2, q⟩ w1 e1 dv => by
    subst ex
    cases dv with
    | cons d1 d2 =>
      cases d1
      cases d2
      exact ⟨j, rfl, h1, h2, q _ _ _ w1.rs e1 itok_range⟩, mono_iR1 ha.mono⟩
/-- a text's signs -/
def signsD (x : Str) : List D := x.cps.toList.map fun c => .str ⟨#[c]⟩
end
def forD (g : Sto → Prop) (tg : GD) (tb : SD) (E : EndsD) : List D → En → Sto → Prop
  | [], env, s => g s ∧ E.nx env s
  | d :: ds, env, s => g s ∧ tg d env s fun env1 s1 => tb ⟨forD g tg tb E ds, E.rt, E.nx, forD g tg tb E ds⟩ env1 s1
theorem mono_forD {g : Sto → Prop} {tg : GD} {tb : SD} (mg : MonoG tg) (mb : MonoS tb) {a b : EndsD} (l : a.Le b) : ∀ (ds : List D) (env : En) (s : Sto), forD g tg tb a ds env s → forD g tg tb b ds env s
  | [], _, _, ⟨h1, h2⟩ => ⟨h1, l.nx _ _ h2⟩
  | d :: ds, _, _, ⟨h1, h2⟩ => ⟨h1, mg _ _ _ _ _ (fun _ _ q => mb ⟨forD g tg tb a ds, a.rt, a.nx, forD g tg tb a ds⟩ _ _ _ ⟨mono_forD mg mb l ds, l.rt, l.nx, mono_forD mg mb l ds⟩ q) h2⟩
def dFor (it : ID) (tg : GD) (tb : SD) : SD := fun E env s => it env s fun ds g s1 => forD g tg tb E ds env s1
section
variable {pos : Pos}
theorem mono_for {it : ID} {tg : GD} {tb : SD} (mi : MonoI it) (mg : MonoG tg) (mb : MonoS tb) : MonoS (dFor it tg tb) := fun a b env s l h => mi _ _ _ _ (fun ds g s1 q => mono_forD mg mb l ds _ _ q) h
theorem drop_cons {α : Type} {l : List α} {i : Nat} {d : α} (h : l[i]? = some d) : l.drop i = d :: l.drop (i + 1) := by
  obtain ⟨h1, h2⟩ := List.getElem?_eq_some_iff.mp h
  rw [List.drop_eq_getElem_cons h1, h2]
theorem psd_for {X : DX} {tg iter : Expr} {body : List Stmt} {it : ID} {g : GD} {tb : SD} (hp : PassesOwn (model X.prog X.w) X.A X.env X.xe) (hc : X.calm = true) (hi : PID X tg iter it) (hg : PGD X tg g) (hb : PSsD X body tb)
    (hs : ∀ x, foldedSetIterable iter X.env x = pure x := by intro _; rfl) : PSD X (.For tg iter body [] pos) (dFor it g tb) := by
  refine ⟨ps_imp (ps_for hp hc hi.pi hg.pg hb.pss hs) fun D σ H ⟨env, s, A, B, w, h⟩ => ?_, mono_for hi.mono hg.mono hb.mono⟩
  refine ⟨env, s, A, B, w, hi.mono _ _ _ _ (fun ds gd s1 q J H1 A1 r1 e1 ok => ?_) h⟩
  have w1 := w.to r1 e1
  refine ⟨fun i m σ' H' => m = ds.length - i ∧ i ≤ ds.length ∧ ∃ env' s' A', Wo X.kk B H' A' s' env' σ' ∧ Ext B H1 A1 s1 H' A' s' ∧ forD gd g tb (PostS X.K B H A s D) (ds.drop i) env' s', ⟨ds.length, by simp, Nat.zero_le _, env, s1, A1, w1, .refl, by simpa using q⟩, ?_⟩
  rintro i m σ2 H2 ⟨rfl, hi', env2, s2, A2, w2, e2, q2⟩
  have okw := ok B H2 A2 s2 w2.rs e2.same e2.pre
  by_cases hlt : i < ds.length
  · have hd : ds[i]? = some ds[i] := List.getElem?_eq_getElem hlt
    rw [drop_cons hd] at q2
    obtain ⟨hgd, q3⟩ := q2
    obtain ⟨go, yl⟩ := (okw hgd i).1 _ hd
    refine .inr ⟨go, fun σ' H' => ∃ env' s' A', Wo X.kk B H' A' s' env' σ' ∧ Ext B H1 A1 s1 H' A' s' ∧ forD gd g tb (PostS X.K B H A s D) (ds.drop (i + 1)) env' s', fun σ' H' n => ⟨ds.length - (i + 1), by omega, rfl, hlt, n⟩, fun x H3 y => ?_⟩
    obtain ⟨r3, e3, d3⟩ := yl x H3 y
    refine ⟨env2, s2, A2, B, ds[i], w2.to r3 e3, d3, hg.mono _ _ _ _ _ (fun env4 s4 q4 σ4 H4 A4 r4 e4 re4 => ?_) q3⟩
    have x4 := (e2.trans e3).trans e4
    have w4 : Wo X.kk B H4 A4 s4 env4 σ4 := ⟨r4, re4, X.zc w2.z (e3.trans e4)⟩
    refine ⟨env4, s4, A4, B, w4, hb.mono _ _ _ _ ⟨fun e' s' n σ' H' A' r x re => ?_, fun d s' h => PostE.from (e1.trans x4) h, fun d s' h => PostN.from (e1.trans x4) h, fun e' s' n σ' H' A' r x re => ?_⟩ q4⟩
    · exact ⟨e', s', A', ⟨r, re, X.zc w4.z x⟩, x4.trans x, n⟩
    · exact ⟨e', s', A', ⟨r, re, X.zc w4.z x⟩, x4.trans x, n⟩
  · have : i = ds.length := by omega
    subst this
    rw [List.drop_length] at q2
    obtain ⟨hgd, q3⟩ := q2
    exact .inl ⟨(okw hgd _).2 (Nat.le_refl _), q3 _ _ _ w2.rs (e1.trans e2) w2.re⟩
end
end Dl
set_option Elab.async false
set_option linter.all false
set_option autoImplicit false
set_option maxRecDepth 100000
set_option maxHeartbeats 4000000
namespace Dl
open PySem PySem.Spec PyProof.Rows L2
/-- a clause's tests -/
structure PTsD (X : DX) (ifs : List Expr) (t : TD) : Prop where
  pts : PTs X ifs (rdT X.kk t)
  mono : Mono t
def dYes : TD := fun _ s Q => Q true s
theorem mono_yes : Mono dYes := fun _ _ _ _ f h => f _ _ h
theorem pts_imp {X : Cx} {ifs : List Expr} {t t' : TT} (h : PTs X ifs t) (f : ∀ σ H Q, t' σ H Q → t σ H Q) : PTs X ifs t' := ⟨fun pins s σ H Q I q => h.run pins s σ H Q I (f σ H Q q)⟩
theorem ptsd_nil {X : DX} : PTsD X [] dYes := ⟨pts_imp pts_nil fun σ H Q ⟨env, s, A, B, w, h⟩ => h H A w.rs .refl, mono_yes⟩
theorem ptsd_one {X : DX} {c : Expr} {t : TD} (h : PTD X c t) : PTsD X [c] t := ⟨pts_one h.pt, h.mono⟩
theorem wipe_set_comm {σ : L2.St} {i : Nat} {o : Option V} : ∀ {vs : List Nat}, i ∉ vs → L2.wipe (σ.set i o) vs = (L2.wipe σ vs).set i o
  | [], _ => rfl
  | v :: vs, h => by
    unfold L2.wipe
    rw [wipe_set_comm (fun z => h (List.mem_cons_of_mem _ z)), List.set_comm _ _ (fun e => h (by rw [e]; exact List.mem_cons_self))]
theorem wipe_set_in {σ : L2.St} {i : Nat} {o : Option V} : ∀ {vs : List Nat}, i ∈ vs → L2.wipe (σ.set i o) vs = L2.wipe σ vs
  | [], h => by cases h
  | v :: vs, h => by
    unfold L2.wipe
    by_cases hv : i ∈ vs
    · rw [wipe_set_in hv]
    · have e : i = v := by
        rcases List.mem_cons.mp h with h | h
        · exact h
        · exact absurd h hv
      subst e
      rw [wipe_set_comm hv, List.set_set]
theorem wipe_wipe {σ : L2.St} : ∀ (us vs : List Nat), (∀ u ∈ us, u ∈ vs) → L2.wipe (L2.wipe σ us) vs = L2.wipe σ vs
  | [], _, _ => rfl
  | u :: us, vs, h => by
    show L2.wipe ((L2.wipe σ us).set u none) vs = L2.wipe σ vs
    rw [wipe_set_in (h u List.mem_cons_self)]
    exact wipe_wipe us vs fun x hx => h x (List.mem_cons_of_mem _ hx)
theorem wipe_sets {σ : L2.St} {vs : List Nat} : ∀ {is : List Nat} {xs : List V} {σ : L2.St}, (∀ i ∈ is, i ∈ vs) → L2.wipe (setS σ is xs) vs = L2.wipe σ vs
  | [], _, _, _ => by unfold setS; rfl
  | _ :: _, [], _, _ => by unfold setS; rfl
  | i :: is, x :: xs, σ, h => by
    unfold setS
    rw [wipe_sets (σ := σ) fun j hj => h j (List.mem_cons_of_mem _ hj), wipe_set_in (h i List.mem_cons_self)]
/-- a comprehension's target: one name, or several -/
inductive CT where
  | one (i : Nat) | many (is : List Nat)
def CT.slots : CT → List Nat
  | .one i => [i]
  | .many is => is
def CT.g : CT → GD
  | .one i => gN i
  | .many is => gTs is
def CT.t (K : PySem.W.Frag) : CT → TG
  | .one i => gName i
  | .many is => gTup K is.length (gNames is)
theorem CT.mono : ∀ c : CT, MonoG c.g
  | .one _ => mono_gN
  | .many _ => mono_gTs
/-- the target's reading, the slots of the block alone changed -/
theorem CT.rd {K : KK} {B : List Addr} {H : Hp} {A : List Addr} {s : Sto} {env : En} {σ : L2.St} {d : D} {v : V} {vs : List Nat} (c : CT) (hs : ∀ i ∈ c.slots, i ∈ vs) (w : Wo K B H A s env (L2.wipe σ vs)) (dv : Dat K (Fz B H A s) A d v) {P : En → Sto → Prop} {Q : L2.St → Hp → Prop}
    (h : c.g d env s P) (k : ∀ env' σ', P env' s → Wo K B H A s env' σ' → Q σ' H) : c.t K v (L2.wipe σ vs) H fun σ2 H2 => L2.wipe σ2 vs = L2.wipe σ vs ∧ Q σ2 H2 := by
  cases c with
  | one i =>
    refine ⟨?_, k _ _ h ⟨w.rs, w.re.set i dv, w.z⟩⟩
    rw [wipe_set_in (hs i List.mem_cons_self)]
    exact wipe_wipe vs vs fun _ h => h
  | many is =>
    obtain ⟨ds, ed, hl, q⟩ := h
    subst ed
    cases dv with
    | tup hq hd =>
      refine ⟨_, _, rfl, sqT_fz hq, by rw [hd.length]; exact hl, by rw [hd.length]; exact hl, ?_, k _ _ q ⟨w.rs, w.re.sets hd, w.z⟩⟩
      rw [wipe_sets (σ := σ) (is := is) (show ∀ i ∈ is, i ∈ vs from hs)]
      exact wipe_wipe vs vs fun _ h => h
def lcD (g : Sto → Prop) (tg : GD) (tt : TD) (te : ED) (env : En) : List D → Sto → (List D → Sto → Prop) → Prop
  | [], s, Q => g s ∧ Q [] s
  | d :: ds, s, Q => g s ∧ tg d env s fun env1 s1 => tt env1 s1 fun b s2 => if b = true then te env1 s2 fun y s3 => lcD g tg tt te env ds s3 fun ys s4 => Q (y :: ys) s4 else lcD g tg tt te env ds s2 Q
theorem mono_lcD {g : Sto → Prop} {tg : GD} {tt : TD} {te : ED} (mg : MonoG tg) (mt : Mono tt) (me : Mono te) {env : En} : ∀ (ds : List D) (s : Sto) (P P' : List D → Sto → Prop), (∀ d s', P d s' → P' d s') → lcD g tg tt te env ds s P → lcD g tg tt te env ds s P'
  | [], _, _, _, f, ⟨h1, h2⟩ => ⟨h1, f _ _ h2⟩
  | d :: ds, _, P, P', f, ⟨h1, h2⟩ => ⟨h1, mg _ _ _ _ _ (fun env1 s1 h3 => mt _ _ _ _ (fun b s2 h4 => by
    cases b with
    | true => rw [if_pos rfl] at h4 ⊢; exact me _ _ _ _ (fun y s3 h5 => mono_lcD mg mt me ds _ _ _ (fun ys s4 h6 => f _ _ h6) h5) h4
    | false => rw [if_neg Bool.false_ne_true] at h4 ⊢; exact mono_lcD mg mt me ds _ _ _ f h4) h3) h2⟩
/-- [elt for tg in it if ..], hidden while it is made -/
def dLcc (it : ID) (tg : GD) (tt : TD) (te : ED) (vs : List Nat) : AD := fun env s Q => it env s fun ds g s1 => ds.length ≤ sizeLine ∧ lcD g tg tt te (wipeE env vs) ds s1 Q
theorem mono_lcc {it : ID} {tg : GD} {tt : TD} {te : ED} {vs : List Nat} (mi : MonoI it) (mg : MonoG tg) (mt : Mono tt) (me : Mono te) : Mono (dLcc it tg tt te vs) := fun _ _ _ _ f h => mi _ _ _ _ (fun ds g s1 ⟨hl, q⟩ => ⟨hl, mono_lcD mg mt me _ _ _ _ f q⟩) h
section
variable {K : PySem.W.Frag} {B : List Addr} {H : Hp} {A : List Addr} {s : Sto} {D0 : Addr}
theorem fz_hide : Same (Fz (D0 :: B) H A s) (Fz B H A s) := fun b u h => by
  obtain ⟨h1, h2, h3⟩ := fz_of h
  exact fz_to h1 h2 (fun z => h3 (List.mem_cons_of_mem _ z)) (fz_nt h)
/-- a new object is hidden -/
theorem RepS.hide (R : RepS K B H A s) {o : HO} (hn : H D0 = none) (nt : HidO o := by exact ⟨(fun _ z => nomatch z), (fun _ z => nomatch z), (fun _ z => nomatch z)⟩) : RepS K (D0 :: B) (upd H D0 o) A s ∧ Same (Fz B H A s) (Fz (D0 :: B) (upd H D0 o) A s) := by
  have ne : ∀ a, H a ≠ none → a ≠ D0 := fun a ha z => ha (by rw [z]; exact hn)
  have e1 : Same (Fz B H A s) (Fz (D0 :: B) (upd H D0 o) A s) := fun b u h => by
    obtain ⟨h1, h2, h3⟩ := fz_of h
    have nb : b ≠ D0 := ne_of_none h1 hn
    exact fz_to (by rw [upd_ne nb]; exact h1) h2 (fun z => (List.mem_cons.mp z).elim nb h3) (fz_nt h)
  refine ⟨⟨R.len, R.inj, fun a ha => ?_, fun b hb => ?_, fun b hb => ?_, fun b hb => ?_, fun a ha => by rw [upd_ne (ne a (R.hd a ha))]; exact R.hx a ha, tabs_new R.tb hn, fun l mo h => ?_⟩, e1⟩
  · rw [upd_ne (ne a (R.hd a ha))]; exact R.hd a ha
  · rcases List.mem_cons.mp hb with e | hb
    · rw [e, upd_same]; exact fun z => nomatch z
    · rw [upd_ne (ne b (R.hb b hb))]; exact R.hb b hb
  · rcases List.mem_cons.mp hb with e | hb
    · rw [e]; exact fun z => R.hd _ z hn
    · exact R.ab b hb
  · rcases List.mem_cons.mp hb with e | hb
    · rw [e, upd_same]; exact fun u z => Option.some.inj z ▸ nt
    · rw [upd_ne (ne b (R.hb b hb))]; exact R.ht b hb
  · obtain ⟨a, ha, ho⟩ := R.ob l mo h
    exact ⟨a, ha, ho.mono e1 (fun _ _ h => h) (upd_ne (ne a (R.hd a (List.mem_of_getElem? ha))))⟩
/-- the hidden object changes -/
theorem RepS.hidW (R : RepS K (D0 :: B) H A s) {o : HO} (nt : HidO o := by exact ⟨(fun _ z => nomatch z), (fun _ z => nomatch z), (fun _ z => nomatch z)⟩) : RepS K (D0 :: B) (upd H D0 o) A s ∧ Same (Fz (D0 :: B) H A s) (Fz (D0 :: B) (upd H D0 o) A s) := by
  have nA : ∀ a ∈ A, a ≠ D0 := fun a ha z => R.ab D0 List.mem_cons_self (by rw [← z]; exact ha)
  have e1 : Same (Fz (D0 :: B) H A s) (Fz (D0 :: B) (upd H D0 o) A s) := fun b u h => by
    obtain ⟨h1, h2, h3⟩ := fz_of h
    exact fz_to (by rw [upd_ne (fun z => h3 (by rw [z]; exact List.mem_cons_self))]; exact h1) h2 h3 (fz_nt h)
  refine ⟨⟨R.len, R.inj, fun a ha => ?_, fun b hb => ?_, R.ab, fun b hb => ?_, fun a ha => by rw [upd_ne (nA a ha)]; exact R.hx a ha, tabs_upd R.tb fun u e => ⟨(R.ht D0 List.mem_cons_self u e).b, (R.ht D0 List.mem_cons_self u e).x⟩, fun l mo h => ?_⟩, e1⟩
  · rw [upd_ne (nA a ha)]; exact R.hd a ha
  · by_cases e : b = D0
    · rw [e, upd_same]; exact fun z => nomatch z
    · rw [upd_ne e]; exact R.hb b hb
  · by_cases e : b = D0
    · rw [e, upd_same]; exact fun u z => Option.some.inj z ▸ nt
    · rw [upd_ne e]; exact R.ht b hb
  · obtain ⟨a, ha, ho⟩ := R.ob l mo h
    exact ⟨a, ha, ho.mono e1 (fun _ _ h => h) (upd_ne (nA a (List.mem_of_getElem? ha)))⟩
/-- it is hidden no more, and never changes -/
theorem RepS.show (R : RepS K (D0 :: B) H A s) : RepS K B H A s :=
  ⟨R.len, R.inj, R.hd, fun b hb => R.hb b (List.mem_cons_of_mem _ hb), fun b hb => R.ab b (List.mem_cons_of_mem _ hb), fun b hb => R.ht b (List.mem_cons_of_mem _ hb), R.hx, R.tb, fun l mo h => let ⟨a, ha, ho⟩ := R.ob l mo h; ⟨a, ha, ho.mono fz_hide (fun _ _ h => h) rfl⟩⟩
end
section
variable {pos : Pos}
/-- how the made list stands behind the comprehension -/
structure LcEnd (K : PySem.W.Frag) (B : List Addr) (D0 : Addr) (H1 : Hp) (A1 : List Addr) (s1 : Sto) (H : Hp) (A : List Addr) (s : Sto) (ds : List D) : Prop where
  rs : RepS K (D0 :: B) H A s
  same : Same (Fz B H1 A1 s1) (Fz (D0 :: B) H A s)
  pre : ∀ (l : Nat) (a : Addr), A1[l]? = some a → A[l]? = some a
  hid : ∀ b ∈ B, H b = H1 b
  nb : D0 ∉ B
  it : ∃ vs, H D0 = some (.lst vs) ∧ DatL K (Fz (D0 :: B) H A s) A ds vs
theorem lc_rd {it : ID} {c : CT} {tt : TD} {te : ED} {own : List Nat} (mi : MonoI it) (mt : Mono tt) (me : Mono te) (hs : ∀ i ∈ c.slots, i ∈ own) {K : KK} {B : List Addr} {H : Hp} {A : List Addr} {s : Sto} {env : En} {σ : L2.St} {P : List D → Sto → Prop} {Q : VK}
    (w : Wo K B H A s env σ) (h : dLcc it c.g tt te own env s P)
    (fin : ∀ (ds : List D) (s1 s2 : Sto) (D0 : Addr) (H1 H2 : Hp) (A1 A2 : List Addr), P ds s2 → Ext B H A s H1 A1 s1 → LcEnd K B D0 H1 A1 s1 H2 A2 s2 ds → Q (.ref D0) H2) :
    tLc (rdI K it) (c.t K) (rdT (kk0 K.K) tt) (rdE (kk0 K.K) te) own σ H Q := by
  refine ⟨env, s, A, B, w, mi _ _ _ _ (fun ds gd s1 q J H1 A1 r1 e1 ok => ?_) h⟩
  obtain ⟨hlen, q⟩ := q
  intro D0 hD0
  have w1 := w.to r1 e1
  obtain ⟨r1', s1'⟩ := r1.hide (D0 := D0) (o := .lst []) hD0
  have nb : D0 ∉ B := fun z => r1.hb D0 z hD0
  let P2 : Nat → Hp → Prop := fun i H' => ∃ (s' : Sto) (A' : List Addr) (acc : List D), LcEnd K B D0 H1 A1 s1 H' A' s' acc ∧ RepE K (Fz (D0 :: B) H' A' s') A' (wipeE env own) (L2.wipe σ own) ∧ acc.length ≤ i ∧
    lcD gd c.g tt te (wipeE env own) (ds.drop i) s' fun ys s4 => P (acc ++ ys) s4
  refine ⟨fun i m H' => m = ds.length - i ∧ i ≤ ds.length ∧ P2 i H', ⟨ds.length, by simp, Nat.zero_le _, s1, A1, [], ⟨r1', s1', fun _ _ h => h, fun b hb => upd_ne (fun z => nb (by rw [← z]; exact hb)), nb, [], upd_same, .nil⟩, ?_, Nat.zero_le _, by simpa using q⟩, ?_⟩
  · have := (w1.re.wipe own)
    exact ⟨this.len, fun i d hd => let ⟨v, h1, h2⟩ := this.get i d hd; ⟨v, h1, h2.mono s1' fun _ _ h => h⟩⟩
  rintro i m H2 ⟨rfl, hi, s2, A2, acc, le, re2, hacc, q2⟩
  have okw := ok (D0 :: B) H2 A2 s2 le.rs le.same le.pre
  by_cases hlt : i < ds.length
  · have hd : ds[i]? = some ds[i] := List.getElem?_eq_getElem hlt
    rw [drop_cons hd] at q2
    obtain ⟨hgd, q3⟩ := q2
    obtain ⟨go, yl⟩ := (okw hgd i).1 _ hd
    refine .inr ⟨go, P2 (i + 1), fun H' n => ⟨ds.length - (i + 1), by omega, rfl, hlt, n⟩, fun x H3 y => ?_⟩
    obtain ⟨r3, e3, d3⟩ := yl x H3 y
    have w3 : Wo (kk0 K.K) (D0 :: B) H3 A2 s2 (wipeE env own) (L2.wipe σ own) := (Wo.mk (K := kk0 K.K) le.rs re2 trivial).to r3 e3
    -- how things stand behind any step from here
    have step : ∀ {H' : Hp} {A' : List Addr} {s' : Sto}, RepS K (D0 :: B) H' A' s' → Ext (D0 :: B) H2 A2 s2 H' A' s' → LcEnd K B D0 H1 A1 s1 H' A' s' acc ∧ RepE K (Fz (D0 :: B) H' A' s') A' (wipeE env own) (L2.wipe σ own) := fun {H' A' s'} r' e' => by
      obtain ⟨vs, hv, dv⟩ := le.it
      exact ⟨⟨r', le.same.trans e'.same, fun l a h => e'.pre l a (le.pre l a h), fun b hb => (e'.hid b (List.mem_cons_of_mem _ hb)).trans (le.hid b hb), nb, vs, (e'.hid D0 List.mem_cons_self).trans hv, dv.ext e'⟩, re2.ext e'⟩
    refine c.rd (K := kk0 K.K) hs w3 d3 q3 fun env4 σ4 q4 w4 => ?_
    refine rdT_go mt w4 q4 fun b s5 H5 A5 q5 w5 e5 => ?_
    cases b with
    | false =>
      rw [if_neg Bool.false_ne_true] at q5 ⊢
      obtain ⟨le5, re5⟩ := step w5.rs (e3.trans e5)
      exact ⟨s5, A5, acc, le5, re5, Nat.le_succ_of_le hacc, q5⟩
    | true =>
      rw [if_pos rfl] at q5 ⊢
      refine rdE_go me w5 q5 fun y s6 v6 H6 A6 q6 w6 e6 d6 => ?_
      obtain ⟨le6, re6⟩ := step w6.rs ((e3.trans e5).trans e6)
      obtain ⟨vs, hv, dv⟩ := le6.it
      refine ⟨vs, hv, by rw [dv.length]; omega, ?_⟩
      obtain ⟨r7, s7⟩ := le6.rs.hidW (o := .lst (vs ++ [v6]))
      refine ⟨s6, A6, acc ++ [y], ⟨r7, le6.same.trans s7, le6.pre, fun b hb => (upd_ne (fun z => nb (by rw [← z]; exact hb))).trans (le6.hid b hb), nb, _, upd_same, ?_⟩, ?_, by simp; exact hacc, ?_⟩
      · exact (dv.append (.cons d6 .nil)).mono s7 fun _ _ h => h
      · exact ⟨re6.len, fun i d hd => let ⟨v, h1, h2⟩ := re6.get i d hd; ⟨v, h1, h2.mono s7 fun _ _ h => h⟩⟩
      · exact mono_lcD c.mono mt me _ _ _ _ (fun ys s4 h4 => by rw [List.append_assoc]; exact h4) q6
  · have : i = ds.length := by omega
    subst this
    rw [List.drop_length] at q2
    obtain ⟨hgd, q3⟩ := q2
    rw [List.append_nil] at q3
    exact .inl ⟨(okw hgd _).2 (Nat.le_refl _), fin acc s1 s2 D0 H1 H2 A1 A2 q3 e1 le⟩
/-- the list never changes -/
def dLc (it : ID) (tg : GD) (tt : TD) (te : ED) (vs : List Nat) : ED := fun env s Q => dLcc it tg tt te vs env s fun ds s1 => Q (.lst ds) s1
theorem mono_lc {it : ID} {tg : GD} {tt : TD} {te : ED} {vs : List Nat} (mi : MonoI it) (mg : MonoG tg) (mt : Mono tt) (me : Mono te) : Mono (dLc it tg tt te vs) := fun _ _ _ _ f h => mono_lcc mi mg mt me _ _ _ _ (fun _ _ q => f _ _ q) h
theorem lc_rdF {it : ID} {c : CT} {tt : TD} {te : ED} {own : List Nat} (mi : MonoI it) (mt : Mono tt) (me : Mono te) (hs : ∀ i ∈ c.slots, i ∈ own) {K : KK} (σ : L2.St) (H : Hp) (Q : VK) (h : rdE K (dLc it c.g tt te own) σ H Q) : tLc (rdI K it) (c.t K) (rdT (kk0 K.K) tt) (rdE (kk0 K.K) te) own σ H Q := by
  obtain ⟨env, s, A, B, w, h⟩ := h
  refine lc_rd mi mt me hs w h fun ds s1 s2 D0 H1 H2 A1 A2 p e1 le => ?_
  obtain ⟨vs, hv, dv⟩ := le.it
  refine p _ _ _ le.rs.show (e1.trans ⟨le.same.trans fz_hide, le.pre, le.hid⟩) (.lst (fz_to hv (fun ⟨l, mo, h1, h2, _⟩ => le.rs.ab D0 List.mem_cons_self (List.mem_of_getElem? h2)) le.nb) (dv.mono fz_hide fun _ _ h => h))
section
variable {elt tg iter : Expr} {ifs : List Expr} {scope : Scope} {own : List (Str × Nat)} {it : ID} {tt : TD} {te : ED}
/-- what its parts ask -/
structure LcP (X : DX) (elt tg : Expr) (ifs : List Expr) (scope : Scope) (c : CT) (tt : TD) (te : ED) : Prop where
  hg : ∀ (s : Shared) (H : Hp) (C : Addr) (cl : List (Str × Addr)) (fp : List Addr), PG (X.blk s H scope (compEnvC scope cl C X.env) fp) tg (c.t X.K)
  ht : ∀ (s : Shared) (H : Hp) (C : Addr) (cl : List (Str × Addr)) (fp : List Addr), PTsD (dx0 (X.blk s H scope (compEnvC scope cl C X.env) fp)) ifs tt
  he : ∀ (s : Shared) (H : Hp) (C : Addr) (cl : List (Str × Addr)) (fp : List Addr), PD (dx0 (X.blk s H scope (compEnvC scope cl C X.env) fp)) elt te
theorem pd_lc {X : DX} (c : CT) (hc : X.calm = true) (hN : X.N.Nodup) (hi : PID X tg iter it) (ok : BlkOk X.N X.env.scope scope own) (p : LcP X elt tg ifs scope c tt te) (sl : ∀ i ∈ c.slots, i ∈ own.map (·.2))
    (hs : ∀ x, foldedSetIterable iter X.env x = pure x := by intro _; rfl) : PD X (.ListComp elt [⟨tg, iter, ifs, 0⟩] scope pos) (dLc it c.g tt te (own.map (·.2))) :=
  have mt : Mono tt := (p.ht X.s_0 (fun _ => none) 0 [] []).mono
  have me : Mono te := (p.he X.s_0 (fun _ => none) 0 [] []).mono
  ⟨pe_imp (pe_lc hc hN hi.pi ok p.hg (fun s H C cl fp => (p.ht s H C cl fp).pts) (fun s H C cl fp => (p.he s H C cl fp).pe) hs) (lc_rdF hi.mono mt me sl), mono_lc hi.mono c.mono mt me⟩
/-- name = [..] on one line -/
theorem psd_setLc {X : DX} (c : CT) {i : Nat} {y : Str} {py spos : Pos} (hc : X.calm = true) (hN : X.N.Nodup) (hy : X.N[i]? = some y) (hyl : X.env.scope.names.lookup y = some .local)
    (hsw : swapsWith (.ListComp elt [⟨tg, iter, ifs, 0⟩] scope pos) (some (.Name y py)) spos.line X.env = pure true) (hi : PID X tg iter it) (ok : BlkOk X.N X.env.scope scope own) (p : LcP X elt tg ifs scope c tt te) (sl : ∀ i ∈ c.slots, i ∈ own.map (·.2))
    (hs : ∀ x, foldedSetIterable iter X.env x = pure x := by intro _; rfl) : PSD X (.Assign [.Name y py] (.ListComp elt [⟨tg, iter, ifs, 0⟩] scope pos) spos) (dAsg (dLc it c.g tt te (own.map (·.2))) (gN i)) :=
  have mt : Mono tt := (p.ht X.s_0 (fun _ => none) 0 [] []).mono
  have me : Mono te := (p.he X.s_0 (fun _ => none) 0 [] []).mono
  ⟨ps_imp (ps_setLc hc hN hy hyl hsw hi.pi ok p.hg (fun s H C cl fp => (p.ht s H C cl fp).pts) (fun s H C cl fp => (p.he s H C cl fp).pe) hs) fun D σ H ⟨env, s, A, B, w, h⟩ =>
    lc_rdF hi.mono mt me sl σ H _ ⟨env, s, A, B, w, mono_lc hi.mono c.mono mt me _ _ _ _ (fun d s' q v H' A' r e dv => q _ _ _ r e ((w.re.ext e).set i dv)) h⟩, mono_asg (mono_lc hi.mono c.mono mt me) mono_gN⟩
end
end
abbrev SpD := List D → Sto → (D → Sto → Prop) → XD → Prop
def PostX (K : PySem.W.Frag) (mg : Str → Option Value) (B : List Addr) (H : Hp) (A : List Addr) (s : Sto) (E : XK) : XD := fun x fs s' => ∀ (cls : Value) (dx : Option Addr) (H' : Hp) (A' : List Addr), mg x = some cls → RepS K B H' A' s' → Ext B H A s H' A' s' → XRep K (Fz B H' A' s') A' fs dx → E cls dx H'
def liftSp (K : PySem.W.Frag) (mg : Str → Option Value) (sp : SpD) : Sp := fun vs H Q E => ∃ (ds : List D) (s : Sto) (A B : List Addr), RepS K B H A s ∧ DatL K (Fz B H A s) A ds vs ∧ sp ds s (PostE K B H A s Q) (PostX K mg B H A s E)
def MonoSp (sp : SpD) : Prop := ∀ ds s P P' E E', (∀ d s', P d s' → P' d s') → (∀ c fs s', E c fs s' → E' c fs s') → sp ds s P E → sp ds s P' E'
/-- room, and no text of a thing is being made -/
structure RoomG (k : Nat) (A : Around) : Prop where
  r : Room k A
  g : A.guards = some []
theorem RoomG.mono {j k : Nat} {A : Around} (r : RoomG k A) (h : j ≤ k) : RoomG j A := ⟨r.r.mono h, r.g⟩
theorem RoomG.deeper {k : Nat} {A : Around} (r : RoomG (k + 1) A) (env : PySem.Env) : RoomG k (A.deeper env) := ⟨r.r.deeper env, r.g⟩
theorem RoomG.units {k : Nat} {A : Around} (r : RoomG k A) : A.units + 64 < cLine := r.r.units
/-- a def keeps its promise -/
structure FnD (P : Program) (w : World) (K : PySem.W.Frag) (mg : Str → Option Value) (base : Heap) (CX : CXT) (k : Nat) (f : Addr) (fd : FuncData) (ps : List Str) (sp : SpD) : Prop where
  len : ∀ ds s Q E, sp ds s Q E → ds.length = ps.length
  run : ∀ (A : Around) (outer : List PySem.Env) (s : Shared) (H : Hp) (args : Args) (us : List Value) (vs : List V) (Q : VK) (E : XK), RoomG k A → Env0 P w K mg base A outer s H → BindsTo s fd args (ps.zip us) → Vals vs us → liftSp K mg sp vs H Q E →
    codeAny (model P w) A (.call (.ref f) args) (CR CX outer P w H s Q E) s
  mono : MonoSp sp
theorem FnD.up {P : Program} {w : World} {K : PySem.W.Frag} {mg : Str → Option Value} {base : Heap} {CX : CXT} {j k : Nat} {f : Addr} {fd : FuncData} {ps : List Str} {sp : SpD} (F : FnD P w K mg base CX j f fd ps sp) (h : j ≤ k) : FnD P w K mg base CX k f fd ps sp :=
  ⟨F.len, fun A outer s H args us vs Q E hr => F.run A outer s H args us vs Q E (hr.mono h), F.mono⟩
theorem liftSp.len {K : PySem.W.Frag} {mg : Str → Option Value} {sp : SpD} {ps : List Str} (h : ∀ ds s Q E, sp ds s Q E → ds.length = ps.length) {vs : List V} {H : Hp} {Q : VK} {E : XK} (q : liftSp K mg sp vs H Q E) : vs.length = ps.length := by
  obtain ⟨ds, s, A, B, _, d, q⟩ := q
  rw [d.length]; exact h _ _ _ _ q
section
variable {pos p : Pos} {CX : CXT} {k : Nat} {f : Addr} {fd : FuncData} {ps : List Str} {sp : SpD} {x : Str} {e : Expr} {es : List Expr} {t : AD} {ds : List Value} {dvs : List V} {dds : List D}
/-- the callee runs (args: as they are written; zs: as they are bound) -/
theorem FnD.go {X : Cx} {pins : List (Addr × Obj)} {σ : L2.St} {H : Hp} {s : Shared} {Q : VK} {E : XK} {us zs : List Value} {kw : List (Str × Value)} {vs : List V} (F : FnD X.prog X.w X.K X.mg X.base CX k f fd ps sp) (hr : RoomG k X.A) (hx : PassesAt CX X σ E) (I : Inv X pins σ H s)
    (b : BindsTo s fd ⟨us, kw⟩ (ps.zip zs)) (r : Vals vs zs) (h : liftSp X.K X.mg sp vs H Q E) : wpAny (model X.prog X.w) X.A (call (.ref f) us kw) (EP X pins σ Q) X.xe s := by
  have c := F.run X.A X.stack s H ⟨us, kw⟩ zs vs Q E hr I.env0 b r h
  refine wpAny_call (codeAny_mono c fun o s1 ho => ?_)
  match o, ho with
  | .error e, ho => exact hx pins H s e s1 I ho
  | .ok (.ret u), ho => exact I.after ho
/-- a call (dds: the defaults) -/
def dCall (sp : SpD) (dds : List D) (t : AD) : ED := fun env s Q => t env s fun xs s1 => sp (xs ++ dds) s1 Q fun _ _ _ => False
/-- .. of a def that may raise -/
def dCallX (W : WXD) (sp : SpD) (dds : List D) (t : AD) : ED := fun env s Q => t env s fun xs s1 => sp (xs ++ dds) s1 Q fun x fs s' => W x fs env s'
theorem mono_call (ms : MonoSp sp) (mt : Mono t) : Mono (dCall sp dds t) := fun _ _ _ _ g h => mt _ _ _ _ (fun _ _ q => ms _ _ _ _ _ _ g (fun _ _ _ h => h) q) h
theorem mono_callX {W : WXD} (ms : MonoSp sp) (mt : Mono t) : Mono (dCallX W sp dds t) := fun _ _ _ _ g h => mt _ _ _ _ (fun _ _ q => ms _ _ _ _ _ _ g (fun _ _ _ h => h) q) h
def tCallG (K : PySem.W.Frag) (mg : Str → Option Value) (sp : SpD) (dvs : List V) (E : L2.St → XK) (t : TA) : TE := fun σ H Q => t σ H fun vs H1 => liftSp K mg sp (vs ++ dvs) H1 Q (E σ)
theorem pe_callG {X : Cx} {E : L2.St → XK} {t : TA} (F : FnD X.prog X.w X.K X.mg X.base CX k f fd ps sp) (hr : RoomG k X.A) (hg : Gl X x) (hm : X.mg x = some (.ref f)) (hk : PySem.W.keepIn X.K (.ref f) = true) (hb : Binds X.K fd ps ds) (hd : Vals dvs ds) (hx : ∀ σ, PassesAt CX X σ (E σ)) (ha : PA X (e :: es) t)
    (h1 : starEach (e :: es) X.env = (false, eval e X.env) :: starEach es X.env) (hpl : (backTo pos (starEach es X.env)).any (·.1) = false) (hdb : (x == ("__debug__" : Str)) = false) : PE X (.Call (.Name x p) (e :: es) [] pos) (tCallG X.K X.mg sp dvs E t) := by
  constructor
  intro pins s σ H Q I h
  apply wpAny_Call_Name_kw
  refine ld_glob I hg hm ?_ hdb
  have args := ha.run pos pins s σ H _ I h
  refine PySem.W.callWith_K (h₀ := X.base) I.ok.mod.kin hk (thn args fun us s1 z => ?_) h1 hpl
  obtain ⟨vs, H1, J, r, q⟩ := z
  have r2 := r.append hd
  exact ⟨J.kIn, F.go hr (hx σ) J (hb s1 us J.kIn (r2.length.symm.trans (liftSp.len F.len q))) r2 q⟩
theorem pd_call {X : DX} (F : FnD X.prog X.w X.K X.mg X.base CX0 k f fd ps sp) (hr : RoomG k X.A) (hg : Gl X x) (hm : X.mg x = some (.ref f)) (hk : PySem.W.keepIn X.K (.ref f) = true) (hb : Binds X.K fd ps ds) (hd : Vals dvs ds) (hdd : ∀ (F : Hp) (A : List Addr), DatL X.K F A dds dvs) (ha : PAD X (e :: es) t)
    (h1 : starEach (e :: es) X.env = (false, eval e X.env) :: starEach es X.env := by rfl) (hpl : (backTo pos (starEach es X.env)).any (·.1) = false := by rfl) (hdb : (x == ("__debug__" : Str)) = false := by decide) : PD X (.Call (.Name x p) (e :: es) [] pos) (dCall sp dds t) := by
  refine ⟨pe_imp (pe_callG (E := fun _ _ _ _ => False) F hr hg hm hk hb hd (fun σ pins H s e s' I c => L2.pass0 pins σ H s e s' I c) ha.pa h1 hpl hdb) fun σ H Q ⟨env, s, A, B, w, h⟩ => ?_, mono_call F.mono ha.mono⟩
  exact rdA_go ha.mono w h fun xs s1 vs H1 A1 q w1 e1 dv => ⟨xs ++ dds, s1, A1, B, w1.rs, dv.append (hdd _ _), F.mono _ _ _ _ _ _ (fun d s' q => PostE.from e1 q) (fun _ _ _ h => h.elim) q⟩
theorem pd_callX {X : DX} (F : FnD X.prog X.w X.K X.mg X.base (L2.CX X.prog X.w) k f fd ps sp) (hr : RoomG k X.A) (hg : Gl X x) (hm : X.mg x = some (.ref f)) (hk : PySem.W.keepIn X.K (.ref f) = true) (hb : Binds X.K fd ps ds) (hd : Vals dvs ds) (hdd : ∀ (F : Hp) (A : List Addr), DatL X.K F A dds dvs) (ha : PAD X (e :: es) t)
    (h1 : starEach (e :: es) X.env = (false, eval e X.env) :: starEach es X.env := by rfl) (hpl : (backTo pos (starEach es X.env)).any (·.1) = false := by rfl) (hdb : (x == ("__debug__" : Str)) = false := by decide) : PD X (.Call (.Name x p) (e :: es) [] pos) (dCallX X.WD sp dds t) := by
  refine ⟨pe_imp (pe_callG (E := WE X.W) F hr hg hm hk hb hd (fun σ => passAt X.tk σ) ha.pa h1 hpl hdb) fun σ H Q ⟨env, s, A, B, w, h⟩ => ?_, mono_callX F.mono ha.mono⟩
  exact rdA_go ha.mono w h fun xs s1 vs H1 A1 q w1 e1 dv => ⟨xs ++ dds, s1, A1, B, w1.rs, dv.append (hdd _ _), F.mono _ _ _ _ _ _ (fun d s' q => PostE.from e1 q) (fun c fs s' h cls dx H' A' hm r x xr => X.wd c fs env s' cls dx σ B H' A' (w1.to r x) hm xr h) q⟩
end
end Dl
set_option Elab.async false
set_option linter.all false
set_option autoImplicit false
set_option maxRecDepth 100000
set_option maxHeartbeats 4000000
namespace Dl
open PySem PySem.Spec PyProof.Rows L2
def seqL (s : Sto) : D → Option (List D)
  | .lst ds => some ds
  | .frl ds => some ds
  | .ref l => match s[l]? with
    | some (some (.lst ds)) => some ds
    | _ => none
  | _ => none
/-- a list but the script -/
def seqM (s : Sto) : D → Option (List D)
  | .lst ds => some ds
  | .ref l => match s[l]? with
    | some (some (.lst ds)) => some ds
    | _ => none
  | _ => none
def seqT : D → Option (List D)
  | .tup ds => some ds
  | _ => none
@[simp] theorem seqL_lst (s : Sto) (ds : List D) : seqL s (.lst ds) = some ds := rfl
@[simp] theorem seqL_frl (s : Sto) (ds : List D) : seqL s (.frl ds) = some ds := rfl
@[simp] theorem seqM_lst (s : Sto) (ds : List D) : seqM s (.lst ds) = some ds := rfl
@[simp] theorem seqT_tup (ds : List D) : seqT (.tup ds) = some ds := rfl
theorem seqL_ref {s : Sto} {l : Nat} {ds : List D} (h : s[l]? = some (some (.lst ds))) : seqL s (.ref l) = some ds := by
  show (match s[l]? with | some (some (.lst ds)) => some ds | _ => none) = some ds
  rw [h]
theorem seqM_ref {s : Sto} {l : Nat} {ds : List D} (h : s[l]? = some (some (.lst ds))) : seqM s (.ref l) = some ds := by
  show (match s[l]? with | some (some (.lst ds)) => some ds | _ => none) = some ds
  rw [h]
theorem of_ref {s : Sto} {l : Nat} {ds : List D} (h : (match s[l]? with | some (some (.lst ds)) => some ds | _ => none) = some ds) : s[l]? = some (some (.lst ds)) := by
  split at h
  · rename_i q; cases h; exact q
  · cases h
section
variable {K : PySem.W.Frag} {B : List Addr} {H : Hp} {A : List Addr} {s : Sto} {x : D} {v : V} {ds : List D}
theorem of_seqM (R : RepS K B H A s) (dv : Dat K (Fz B H A s) A x v) (h : seqM s x = some ds) : ∃ a vs, v = .ref a ∧ H a = some (.lst vs) ∧ DatL K (Fz B H A s) A ds vs := by
  cases x with
  | exc _ _ => cases h
  | lst xs =>
    cases dv with
    | lst hs hd => cases h; exact ⟨_, _, rfl, (fz_of hs).1, hd⟩
  | ref l =>
    cases dv with
    | ref hA =>
      obtain ⟨a', ha', vs, hv, hd⟩ := R.ob l _ (of_ref h)
      rw [hA] at ha'; cases ha'
      exact ⟨_, vs, rfl, hv, hd⟩
  | non => cases h
  | bl _ => cases h
  | int _ => cases h
  | str _ => cases h
  | tup _ => cases h
  | frl _ => cases h
  | dk _ _ => cases h
  | dt _ _ => cases h
theorem of_seqL (R : RepS K B H A s) (dv : Dat K (Fz B H A s) A x v) (h : seqL s x = some ds) : ∃ a vs, v = .ref a ∧ SqL K H a vs ∧ DatL K (Fz B H A s) A ds vs := by
  by_cases e : ∃ xs, x = .frl xs
  · obtain ⟨xs, rfl⟩ := e
    cases dv with
    | frl hs hd => cases h; exact ⟨_, _, rfl, sqL_fz hs.seq, hd⟩
  · have h' : seqM s x = some ds := by
      cases x with
      | frl xs => exact absurd ⟨xs, rfl⟩ e
      | _ => exact h
    obtain ⟨a, vs, e1, e2, e3⟩ := of_seqM R dv h'
    exact ⟨a, vs, e1, .of e2, e3⟩
theorem of_seqT (dv : Dat K (Fz B H A s) A x v) (h : seqT x = some ds) : ∃ a vs, v = .ref a ∧ SqT K H a vs ∧ DatL K (Fz B H A s) A ds vs := by
  cases x with
  | tup xs =>
    cases dv with
    | tup hs hd => cases h; exact ⟨_, _, rfl, sqT_fz hs, hd⟩
  | lst _ => cases h
  | frl _ => cases h
  | ref _ => cases h
  | exc _ _ => cases h
  | non => cases h
  | bl _ => cases h
  | int _ => cases h
  | str _ => cases h
  | dk _ _ => cases h
  | dt _ _ => cases h
end
theorem PostE.here {K : PySem.W.Frag} {B : List Addr} {H : Hp} {A : List Addr} {s : Sto} {Q : VK} {d : D} {v : V} (R : RepS K B H A s) (h : PostE K B H A s Q d s) (dv : Dat K (Fz B H A s) A d v) : Q v H := h v H A R .refl dv
/-- a new object that never changes is handed on -/
theorem PostE.new {K : PySem.W.Frag} {B : List Addr} {H : Hp} {A : List Addr} {s : Sto} {Q : VK} {d : D} {p : Addr} {o : HO} (R : RepS K B H A s) (h : PostE K B H A s Q d s) (hp : H p = none)
    (dv : ∀ F, Same (Fz B H A s) F → F p = some o → Dat K F A d (.ref p)) (nt : ∀ ps, o ≠ .tbl ps := by exact fun _ z => nomatch z) : Q (.ref p) (upd H p o) := by
  obtain ⟨r2, e2, f2⟩ := R.laid (o := o) hp nt
  exact h _ _ _ r2 e2 (dv _ e2.same f2)
section
variable {f : Value → Value → Sem Value}
theorem opx_of {X : Cx} {r : R2} {o : O2} (h : OpR X f r) (l : ∀ (x y : D) (s : Sto) (v w : V) (H : Hp) (A B : List Addr) (Q : VK), RepS X.K B H A s → Dat X.K (Fz B H A s) A x v → Dat X.K (Fz B H A s) A y w → o x y s (PostE X.K B H A s Q) → r v w H Q) : OpX X f o := ⟨r, h, l⟩
def oII (g : Int → Int → D) : O2 := fun x y s Q => ∃ i j, x = .int i ∧ y = .int j ∧ Q (g i j) s
def oIIc (c : Int → Int → Prop) (g : Int → Int → D) : O2 := fun x y s Q => ∃ i j, x = .int i ∧ y = .int j ∧ c i j ∧ Q (g i j) s
theorem opx_ii {X : Cx} {g : Int → Int → V} {g' : Int → Int → D} (h : OpR X f (rI0 g)) (hg : ∀ i j F A, Dat X.K F A (g' i j) (g i j)) : OpX X f (oII g') := opx_of h fun x y s v w H A B Q R dv dw ⟨i, j, ex, ey, q⟩ => by
  subst ex ey
  cases dv
  cases dw
  exact ⟨i, j, rfl, rfl, q.here R (hg _ _ _ _)⟩
theorem opx_iic {X : Cx} {c : Int → Int → Prop} {g : Int → Int → V} {g' : Int → Int → D} (h : OpR X f (rI c g)) (hg : ∀ i j F A, Dat X.K F A (g' i j) (g i j)) : OpX X f (oIIc c g') := opx_of h fun x y s v w H A B Q R dv dw ⟨i, j, ex, ey, hc, q⟩ => by
  subst ex ey
  cases dv
  cases dw
  exact ⟨i, j, rfl, rfl, hc, q.here R (hg _ _ _ _)⟩
def b2n (k : Bool) : Int := if k = true then 1 else 0
def oBI (g : Int → Int → D) : O2 := fun x y s Q => ∃ k j, x = .bl k ∧ y = .int j ∧ Q (g (b2n k) j) s
def oIB (g : Int → Int → D) : O2 := fun x y s Q => ∃ i k, x = .int i ∧ y = .bl k ∧ Q (g i (b2n k)) s
theorem opr_bi {X : Cx} {g : Int → Int → V} (rule : ∀ (k : Bool) (j : Int) (u : Tok) (pins : List (Addr × Obj)) (s : Shared) (σ : L2.St) (H : Hp) (Q : VK), Inv X pins σ H s → Q (g (b2n k) j) H → wpAny (model X.prog X.w) X.A (f (.bool k) (.int j u)) (EP X pins σ Q) X.xe s) :
    OpR X f (fun x y H Q => ∃ k j, x = .bl k ∧ y = .int j ∧ Q (g (b2n k) j) H) := by
  intro pins s σ H x y v u Q I rx ry h
  obtain ⟨k, j, rfl, rfl, q⟩ := h
  cases rx
  obtain ⟨t, rfl⟩ := ry
  exact rule k j t pins s σ H Q I q
theorem opr_ib {X : Cx} {g : Int → Int → V} (rule : ∀ (i : Int) (t : Tok) (k : Bool) (pins : List (Addr × Obj)) (s : Shared) (σ : L2.St) (H : Hp) (Q : VK), Inv X pins σ H s → Q (g i (b2n k)) H → wpAny (model X.prog X.w) X.A (f (.int i t) (.bool k)) (EP X pins σ Q) X.xe s) :
    OpR X f (fun x y H Q => ∃ i k, x = .int i ∧ y = .bl k ∧ Q (g i (b2n k)) H) := by
  intro pins s σ H x y v u Q I rx ry h
  obtain ⟨i, k, rfl, rfl, q⟩ := h
  obtain ⟨t, rfl⟩ := rx
  cases ry
  exact rule i t k pins s σ H Q I q
theorem opx_bi {X : Cx} {g : Int → Int → V} {g' : Int → Int → D} (h : OpR X f (fun x y H Q => ∃ k j, x = .bl k ∧ y = .int j ∧ Q (g (b2n k) j) H)) (hg : ∀ i j F A, Dat X.K F A (g' i j) (g i j)) : OpX X f (oBI g') := opx_of h fun x y s v w H A B Q R dv dw ⟨i, j, ex, ey, q⟩ => by
  subst ex ey
  cases dv
  cases dw
  exact ⟨i, j, rfl, rfl, q.here R (hg _ _ _ _)⟩
theorem opx_ib {X : Cx} {g : Int → Int → V} {g' : Int → Int → D} (h : OpR X f (fun x y H Q => ∃ i k, x = .int i ∧ y = .bl k ∧ Q (g i (b2n k)) H)) (hg : ∀ i j F A, Dat X.K F A (g' i j) (g i j)) : OpX X f (oIB g') := opx_of h fun x y s v w H A B Q R dv dw ⟨i, j, ex, ey, q⟩ => by
  subst ex ey
  cases dv
  cases dw
  exact ⟨i, j, rfl, rfl, q.here R (hg _ _ _ _)⟩
end
def addF (s : Sto) (x y : D) : Option D :=
  match x, y with
  | .int i, .int j => some (.int (i + j))
  | .bl k, .int j => some (.int (b2n k + j))
  | .int i, .bl k => some (.int (i + b2n k))
  | .str a, .str b => if a.length + b.length ≤ sizeLine then some (.str (a ++ b)) else none
  | .tup xs, .tup ys => if xs.length + ys.length ≤ sizeLine then some (.tup (xs ++ ys)) else none
  | x, y => match seqM s x, seqM s y with
    | some xs, some ys => if xs.length + ys.length ≤ sizeLine then some (.lst (xs ++ ys)) else none
    | _, _ => none
section
theorem opx_add_str {X : Cx} : OpX X (binaryOp .Add) (fun x y s Q => ∃ a b, x = .str a ∧ y = .str b ∧ a.length + b.length ≤ sizeLine ∧ Q (.str (a ++ b)) s) := opx_of op_add_str fun x y s v w H A B Q R dv dw ⟨i, j, ex, ey, hc, q⟩ => by
  subst ex ey
  cases dv
  cases dw
  refine ⟨i, j, rfl, rfl, hc, q.here R (.str _ ?_)⟩
  show (i ++ j).length ≤ sizeLine
  rw [show (i ++ j).length = i.length + j.length from Array.size_append]
  exact hc
theorem opx_add_tup {X : Cx} : OpX X (binaryOp .Add) (fun x y s Q => ∃ a b, x = .tup a ∧ y = .tup b ∧ a.length + b.length ≤ sizeLine ∧ Q (.tup (a ++ b)) s) := opx_of op_catA fun x y s v w H A B Q R dv dw ⟨xs, ys, ex, ey, hc, q⟩ => by
  subst ex ey
  cases dv with
  | tup hs hd =>
    cases dw with
    | tup hs' hd' =>
      refine ⟨_, _, _, _, rfl, rfl, sqT_fz hs, sqT_fz hs', by rw [hd.length, hd'.length]; exact hc, fun e => ?_, fun e e' => ?_, fun _ _ p hp => q.new R hp fun F e f => .tup (.of f) ((hd.append hd').mono e fun _ _ h => h)⟩
      · subst e; cases hd; exact q.here R (.tup hs' hd')
      · subst e'; cases hd'; rw [List.append_nil] at q; exact q.here R (.tup hs hd)
theorem opx_add_lst {X : Cx} : OpX X (binaryOp .Add) (fun x y s Q => ∃ a b, seqM s x = some a ∧ seqM s y = some b ∧ a.length + b.length ≤ sizeLine ∧ Q (.lst (a ++ b)) s) := opx_of op_cat fun x y s v w H A B Q R dv dw ⟨xs, ys, ex, ey, hc, q⟩ => by
  obtain ⟨a, vs, rfl, ha, hd⟩ := of_seqM R dv ex
  obtain ⟨b, ws, rfl, hb, hd'⟩ := of_seqM R dw ey
  exact ⟨a, b, vs, ws, rfl, rfl, ha, hb, by rw [hd.length, hd'.length]; exact hc, fun p hp => q.new R hp fun F e f => .lst f ((hd.append hd').mono e fun _ _ h => h)⟩
theorem opx_add {X : Cx} : OpX X (binaryOp .Add) (oF addF) := by
  have h1 : OpX X (binaryOp .Add) (oII fun i j => .int (i + j)) := opx_ii op_add fun _ _ _ _ => .int _
  have h2 : OpX X (binaryOp .Add) (oBI fun i j => .int (i + j)) := opx_bi (g := fun i j => .int (i + j)) (opr_bi (g := fun i j => .int (i + j)) fun k j u pins s σ H Q I q => PySem.IntBool.add_bool_int ⟨.int (b2n k + j), H, I.tok _, ⟨_, rfl⟩, q⟩) fun _ _ _ _ => .int _
  have h3 : OpX X (binaryOp .Add) (oIB fun i j => .int (i + j)) := opx_ib (g := fun i j => .int (i + j)) (opr_ib (g := fun i j => .int (i + j)) fun i t k pins s σ H Q I q => add_int_bool ⟨.int (i + b2n k), H, I.tok _, ⟨_, rfl⟩, q⟩) fun _ _ _ _ => .int _
  refine ((((h1.or h2).or h3).or opx_add_str).or opx_add_tup |>.or opx_add_lst).imp ?_
  rintro x y s Q ⟨z, e, q⟩
  unfold addF at e
  split at e
  · cases e; exact .inl (.inl (.inl (.inl (.inl ⟨_, _, rfl, rfl, q⟩))))
  · cases e; exact .inl (.inl (.inl (.inl (.inr ⟨_, _, rfl, rfl, q⟩))))
  · cases e; exact .inl (.inl (.inl (.inr ⟨_, _, rfl, rfl, q⟩)))
  · split at e
    · cases e; exact .inl (.inl (.inr ⟨_, _, rfl, rfl, by assumption, q⟩))
    · cases e
  · split at e
    · cases e; exact .inl (.inr ⟨_, _, rfl, rfl, by assumption, q⟩)
    · cases e
  · split at e
    · rename_i h1 h2
      split at e
      · cases e; exact .inr ⟨_, _, h1, h2, by assumption, q⟩
      · cases e
    · cases e
def subF (_ : Sto) (x y : D) : Option D :=
  match x, y with
  | .int i, .int j => some (.int (i - j))
  | .bl k, .int j => some (.int (b2n k - j))
  | .int i, .bl k => some (.int (i - b2n k))
  | _, _ => none
theorem opx_sub {X : Cx} : OpX X (binaryOp .Sub) (oF subF) := by
  have h1 : OpX X (binaryOp .Sub) (oII fun i j => .int (i - j)) := opx_ii op_sub fun _ _ _ _ => .int _
  have h2 : OpX X (binaryOp .Sub) (oBI fun i j => .int (i - j)) := opx_bi (g := fun i j => .int (i - j)) (opr_bi (g := fun i j => .int (i - j)) fun k j u pins s σ H Q I q => PySem.IntBool.sub_bool_int ⟨.int (b2n k - j), H, I.tok _, ⟨_, rfl⟩, q⟩) fun _ _ _ _ => .int _
  have h3 : OpX X (binaryOp .Sub) (oIB fun i j => .int (i - j)) := opx_ib (g := fun i j => .int (i - j)) (opr_ib (g := fun i j => .int (i - j)) fun i t k pins s σ H Q I q => PySem.IntBool.sub_int_bool ⟨.int (i - b2n k), H, I.tok _, ⟨_, rfl⟩, q⟩) fun _ _ _ _ => .int _
  refine ((h1.or h2).or h3).imp ?_
  rintro x y s Q ⟨z, e, q⟩
  unfold subF at e
  split at e
  · cases e; exact .inl (.inl ⟨_, _, rfl, rfl, q⟩)
  · cases e; exact .inl (.inr ⟨_, _, rfl, rfl, q⟩)
  · cases e; exact .inr ⟨_, _, rfl, rfl, q⟩
  · cases e
/-- together below a hundred million bits -/
def MulOk (i j : Int) : Prop := IntMulOk i j
theorem op_mulM {X : Cx} : OpR X (binaryOp .Mult) (rI MulOk fun i j => .int (i * j)) := opI fun _ _ _ _ _ _ _ hc q => mul_int q hc
theorem opx_mul_ii {X : Cx} : OpX X (binaryOp .Mult) (oIIc MulOk fun i j => .int (i * j)) := opx_iic op_mulM fun _ _ _ _ => .int _
theorem opx_mod {X : Cx} : OpX X (binaryOp .Mod) (oIIc (fun _ j => 0 < j) fun i j => .int (i % j)) := opx_iic op_mod fun _ _ _ _ => .int _
def DivOk (_ j : Int) : Prop := 0 < j ∧ j.natAbs.log2 < 9000
theorem op_fdivO {X : Cx} : OpR X (binaryOp .FloorDiv) (rI DivOk fun i j => .int (i / j)) := op_fdivW
theorem opx_fdiv {X : Cx} : OpX X (binaryOp .FloorDiv) (oIIc DivOk fun i j => .int (i / j)) := opx_iic op_fdivO fun _ _ _ _ => .int _
def PowOk (i j : Int) : Prop := 2 ≤ j ∧ ((Builtin.Int.intBits i : Nat) : Int) * j ≤ 134217728
theorem op_powW {X : Cx} : OpR X (binaryOp .Pow) (rI PowOk fun i j => .int (i ^ j.toNat)) := opI fun i j t u s Q E hc q => by
  obtain ⟨h0, h1⟩ := hc
  have b0 : j ≥ 0 := by omega
  have b1 : ¬ (j == 0) = true := by
    intro z
    have := eq_of_beq z
    omega
  by_cases c2 : (i == 0 || i == 1) = true
  · refine AutoIntOps.pow_1 b0 b1 c2 ?_
    have e : i ^ j.toNat = i := by
      rcases Bool.or_eq_true_iff.mp c2 with z | z
      · have := eq_of_beq z
        subst this
        rw [Int.zero_pow]; omega
      · have := eq_of_beq z
        subst this
        exact Int.one_pow
    rw [e] at q
    exact q
  · by_cases c3 : (i == -1) = true
    · refine AutoIntOps.pow_2 b0 b1 c2 c3 ?_
      have := eq_of_beq c3
      subst this
      have e : (-1 : Int) ^ j.toNat = if (j % 2 == 0) = true then 1 else -1 := by
        obtain ⟨n, rfl⟩ : ∃ n : Nat, j = (n : Int) := ⟨j.toNat, by omega⟩
        rw [Int.toNat_natCast]
        have hp : ∀ n : Nat, (-1 : Int) ^ n = if n % 2 = 0 then 1 else -1 := by
          intro n
          induction n with
          | zero => rfl
          | succ n ih =>
            rw [Int.pow_succ, ih]
            by_cases hn : n % 2 = 0
            · rw [if_pos hn, if_neg (by omega)]; rfl
            · rw [if_neg hn, if_pos (by omega)]; rfl
        rw [hp]
        by_cases hn : n % 2 = 0
        · rw [if_pos hn, if_pos (by simp; omega)]
        · rw [if_neg hn, if_neg (by simp; omega)]
      rw [e] at q
      exact q
    · refine AutoIntOps.pow_4 b0 b1 c2 c3 (fun z => ?_) q
      unfold Builtin.Int.intTooBig at z
      have z3 := of_decide_eq_true z
      have e : bitsLine = 134217728 := by decide
      rw [e] at z3
      omega
theorem opx_pow {X : Cx} : OpX X (binaryOp .Pow) (oIIc PowOk fun i j => .int (i ^ j.toNat)) := opx_iic op_powW fun _ _ _ _ => .int _
theorem mono_iic {c : Int → Int → Prop} {g : Int → Int → D} : MonoO (oIIc c g) := fun _ _ _ _ _ f ⟨i, j, e1, e2, h, q⟩ => ⟨i, j, e1, e2, h, f _ _ q⟩
def negF (_ : Sto) (x : D) : Option D :=
  match x with
  | .int i => some (.int (-i))
  | _ => none
theorem pd_neg {X : DX} {a : Expr} {ta : ED} {pos : Pos} (ha : PD X a ta) : PD X (.UnaryOp .USub a pos) (dUn negF ta) := by
  refine ⟨pe_imp (pe_un un_neg ha.pe) fun σ H Q ⟨env, s, A, B, w, h⟩ => rdE_go ha.mono w h fun x s1 v H1 A1 q w1 e1 dv => ?_, mono_un ha.mono⟩
  obtain ⟨z, e, q⟩ := q
  unfold negF at e
  split at e
  · cases e
    cases dv
    exact ⟨_, rfl, q _ _ _ w1.rs e1 (.int _)⟩
  · cases e
def cmpF (p : Int → Int → Bool) (_ : Sto) (x y : D) : Option D :=
  match x, y with
  | .int i, .int j => some (.bl (p i j))
  | _, _ => none
theorem opx_cmp {X : Cx} {op : CmpOp} {p : Int → Int → Bool} (h : OpR X (compareOp op) (rI0 fun i j => .bl (p i j))) : OpX X (compareOp op) (oF (cmpF p)) := by
  have h1 : OpX X (compareOp op) (oII fun i j => .bl (p i j)) := opx_ii h fun _ _ _ _ => .bl _
  refine h1.imp ?_
  rintro x y s Q ⟨z, e, q⟩
  unfold cmpF at e
  split at e
  · cases e; exact ⟨_, _, rfl, rfl, q⟩
  · cases e
abbrev ltF := cmpF fun i j => decide (i < j)
abbrev leF := cmpF fun i j => decide (i ≤ j)
abbrev gtF := cmpF fun i j => decide (j < i)
abbrev geF := cmpF fun i j => decide (j ≤ i)
theorem opx_lt {X : Cx} : OpX X (compareOp .Lt) (oF ltF) := opx_cmp op_lt
theorem opx_le {X : Cx} : OpX X (compareOp .LtE) (oF leF) := opx_cmp op_le
theorem opx_ge {X : Cx} : OpX X (compareOp .GtE) (oF geF) := opx_cmp op_ge
end
end Dl
set_option Elab.async false
set_option linter.all false
set_option autoImplicit false
set_option maxRecDepth 100000
set_option maxHeartbeats 4000000
namespace Dl
open PySem PySem.Spec PyProof.Rows L2
def allO (f : D → D → Option Bool) : List D → List D → Option Bool
  | x :: xs, y :: ys => match f x y, allO f xs ys with
    | some a, some b => some (a && b)
    | _, _ => none
  | _, _ => some true
/-- x == y, of nesting below n (none: not told here) -/
def eqN : Nat → D → D → Option Bool
  | 0 => fun _ _ => none
  | n + 1 => fun x y => match x, y with
    | .non, .non => some true
    | .bl a, .bl b => some (a == b)
    | .bl a, .int j => some (b2n a == j)
    | .int i, .bl b => some (i == b2n b)
    | .int i, .int j => some (i == j)
    | .str a, .str b => some (a == b)
    | .lst xs, .lst ys => if xs.length = ys.length then allO (eqN n) xs ys else some false
    | .tup xs, .tup ys => match allO (eqN n) xs ys with
      | some b => some (b && decide (xs.length = ys.length))
      | none => none
    | .non, .bl _ => some false
    | .non, .int _ => some false
    | .non, .str _ => some false
    | .non, .lst _ => some false
    | .non, .tup _ => some false
    | .bl _, .non => some false
    | .bl _, .str _ => some false
    | .bl _, .lst _ => some false
    | .bl _, .tup _ => some false
    | .int _, .non => some false
    | .int _, .str _ => some false
    | .int _, .lst _ => some false
    | .int _, .tup _ => some false
    | .str _, .non => some false
    | .str _, .bl _ => some false
    | .str _, .int _ => some false
    | .str _, .lst _ => some false
    | .str _, .tup _ => some false
    | .lst _, .non => some false
    | .lst _, .bl _ => some false
    | .lst _, .int _ => some false
    | .lst _, .str _ => some false
    | .lst _, .tup _ => some false
    | .tup _, .non => some false
    | .tup _, .bl _ => some false
    | .tup _, .int _ => some false
    | .tup _, .str _ => some false
    | .tup _, .lst _ => some false
    | _, _ => none
section
variable {X : Cx} {pins : List (Addr × Obj)} {σ : L2.St} {H F : Hp} {A0 : List Addr} {s : Shared}
/-- a list as the heap has it -/
theorem isList_of (I : Inv X pins σ H s) {a : Addr} {vs : List V} (h : SqL X.K H a vs) : ∃ its : List Value, Vals vs its ∧ s.heap.IsList a its.toArray := by
  obtain ⟨its, r, pl, _⟩ := I.list h
  exact ⟨its, r, pl.isList⟩
theorem isTup_of (I : Inv X pins σ H s) {a : Addr} {vs : List V} (h : SqT X.K H a vs) : ∃ its : List Value, Vals vs its ∧ s.heap.IsTuple a its.toArray := by
  obtain ⟨its, r, pl, _⟩ := I.tuple h
  exact ⟨its, r, pl⟩
theorem lt_excl (I : Inv X pins σ H s) {a : Addr} {vs ws : List V} (h : SqL X.K H a vs) (h' : SqT X.K H a ws) : False := by
  obtain ⟨_, _, l⟩ := isList_of I h
  obtain ⟨_, _, t⟩ := isTup_of I h'
  exact SeqAt.ne_of_list_tuple l t rfl
theorem klist_excl (I : Inv X pins σ H s) {a : Addr} {o : Obj} {u : HO} (h : X.K.lookup a = some o) (h' : H a = some u) : False := by
  have := (I.bs a o (I.mod.kin a o h)).2
  rw [h'] at this; cases this
mutual
/-- nothing of the store within -/
def pureD : D → Bool
  | .tup xs => pureL xs
  | .lst xs => pureL xs
  | .frl xs => pureL xs
  | .dk _ xs => pureL xs
  | .dt _ xs => pureL xs
  | .ref _ => false
  | .exc _ _ _ => false
  | _ => true
def pureL : List D → Bool
  | [] => true
  | x :: xs => pureD x && pureL xs
end
/-- what a value's datum may be at an address -/
inductive AtA (K : PySem.W.Frag) (F : Hp) (A : List Addr) (a : Addr) : D → Prop
  | tup {vs : List V} {ds : List D} : SqT K F a vs → DatL K F A ds vs → AtA K F A a (.tup ds)
  | lst {vs : List V} {ds : List D} : F a = some (.lst vs) → DatL K F A ds vs → AtA K F A a (.lst ds)
  | frl {vs : List V} {ds : List D} : SqF K F a vs → DatL K F A ds vs → AtA K F A a (.frl ds)
  | dk {kvs : List (Key × V)} {ds : List D} : F a = some (.dK kvs) → DatL K F A ds (kvs.map (·.2)) → AtA K F A a (.dk (kvs.map (·.1)) ds)
  | dt {kvs : List (List Key × V)} {ds : List D} : F a = some (.dT kvs) → DatL K F A ds (kvs.map (·.2)) → AtA K F A a (.dt (kvs.map (·.1)) ds)
theorem atA_of {K : PySem.W.Frag} {F : Hp} {A : List Addr} {a : Addr} {x : D} (h : Dat K F A x (.ref a)) (p : pureD x = true) : AtA K F A a x := by
  cases h with
  | tup h1 h2 => exact .tup h1.q h2
  | lst h1 h2 => exact .lst h1 h2
  | frl h1 h2 => exact .frl h1 h2
  | dk h1 h2 => exact .dk h1 h2
  | dt h1 h2 => exact .dt h1 h2
  | ref h1 => cases p
  | exc h1 h2 => cases p
/-- two readings of one address: one kind, the same items -/
theorem AtA.two (I : Inv X pins σ H s) (hF : Same F H) {a : Addr} {x y : D} (h : AtA X.K F A0 a x) (g : AtA X.K F A0 a y) :
    (∃ xs ys vs, x = .tup xs ∧ y = .tup ys ∧ DatL X.K F A0 xs vs ∧ DatL X.K F A0 ys vs) ∨ (∃ xs ys vs, x = .lst xs ∧ y = .lst ys ∧ DatL X.K F A0 xs vs ∧ DatL X.K F A0 ys vs) ∨
    (∃ xs ys vs, x = .frl xs ∧ y = .frl ys ∧ DatL X.K F A0 xs vs ∧ DatL X.K F A0 ys vs) ∨ (∃ ks xs ys vs, x = .dk ks xs ∧ y = .dk ks ys ∧ DatL X.K F A0 xs vs ∧ DatL X.K F A0 ys vs) ∨
    (∃ ks xs ys vs, x = .dt ks xs ∧ y = .dt ks ys ∧ DatL X.K F A0 xs vs ∧ DatL X.K F A0 ys vs) := by
  have tupx : ∀ {vs : List V} {u : HO}, SqT X.K F a vs → F a = some u → (∀ zs, u ≠ .tup zs) → (∀ o zs, u ≠ .frz o (.tup zs)) → False := fun {vs u} t e n1 n2 => by
    rcases t with (t | ⟨o, t⟩) | ⟨o, its, n, t, _⟩
    · rw [e] at t; cases t; exact n1 _ rfl
    · rw [e] at t; cases t; exact n2 _ _ rfl
    · exact klist_excl I t (hF _ _ e)
  have frlx : ∀ {vs : List V} {u : HO}, SqF X.K F a vs → F a = some u → (∀ o zs, u ≠ .frz o (.lst zs)) → False := fun {vs u} t e n2 => by
    rcases t with ⟨o, t⟩ | ⟨o, its, n, t, _⟩
    · rw [e] at t; cases t; exact n2 _ _ rfl
    · exact klist_excl I t (hF _ _ e)
  cases h with
  | tup h1 h2 =>
    cases g with
    | tup g1 g2 =>
      have := I.tuple_inj (sqT_same hF h1) (sqT_same hF g1)
      subst this
      exact .inl ⟨_, _, _, rfl, rfl, h2, g2⟩
    | lst g1 g2 => exact (tupx h1 g1 (fun _ z => nomatch z) (fun _ _ z => nomatch z)).elim
    | frl g1 g2 => exact (lt_excl I (hF.seq g1.seq) (sqT_same hF h1)).elim
    | dk g1 g2 => exact (tupx h1 g1 (fun _ z => nomatch z) (fun _ _ z => nomatch z)).elim
    | dt g1 g2 => exact (tupx h1 g1 (fun _ z => nomatch z) (fun _ _ z => nomatch z)).elim
  | lst h1 h2 =>
    cases g with
    | tup g1 g2 => exact (tupx g1 h1 (fun _ z => nomatch z) (fun _ _ z => nomatch z)).elim
    | lst g1 g2 => rw [h1] at g1; cases g1; exact .inr (.inl ⟨_, _, _, rfl, rfl, h2, g2⟩)
    | frl g1 g2 => exact (frlx g1 h1 (fun _ _ z => nomatch z)).elim
    | dk g1 g2 => rw [h1] at g1; cases g1
    | dt g1 g2 => rw [h1] at g1; cases g1
  | frl h1 h2 =>
    cases g with
    | tup g1 g2 => exact (lt_excl I (hF.seq h1.seq) (sqT_same hF g1)).elim
    | lst g1 g2 => exact (frlx h1 g1 (fun _ _ z => nomatch z)).elim
    | frl g1 g2 =>
      have := I.list_inj (hF.seq h1.seq) (hF.seq g1.seq)
      subst this
      exact .inr (.inr (.inl ⟨_, _, _, rfl, rfl, h2, g2⟩))
    | dk g1 g2 => exact (frlx h1 g1 (fun _ _ z => nomatch z)).elim
    | dt g1 g2 => exact (frlx h1 g1 (fun _ _ z => nomatch z)).elim
  | dk h1 h2 =>
    cases g with
    | tup g1 g2 => exact (tupx g1 h1 (fun _ z => nomatch z) (fun _ _ z => nomatch z)).elim
    | lst g1 g2 => rw [h1] at g1; cases g1
    | frl g1 g2 => exact (frlx g1 h1 (fun _ _ z => nomatch z)).elim
    | dk g1 g2 => rw [h1] at g1; cases g1; exact .inr (.inr (.inr (.inl ⟨_, _, _, _, rfl, rfl, h2, g2⟩)))
    | dt g1 g2 => rw [h1] at g1; cases g1
  | dt h1 h2 =>
    cases g with
    | tup g1 g2 => exact (tupx g1 h1 (fun _ z => nomatch z) (fun _ _ z => nomatch z)).elim
    | lst g1 g2 => rw [h1] at g1; cases g1
    | frl g1 g2 => exact (frlx g1 h1 (fun _ _ z => nomatch z)).elim
    | dk g1 g2 => rw [h1] at g1; cases g1
    | dt g1 g2 => rw [h1] at g1; cases g1; exact .inr (.inr (.inr (.inr ⟨_, _, _, _, rfl, rfl, h2, g2⟩)))
mutual
/-- one value, one datum -/
theorem Dat.inj (I : Inv X pins σ H s) (hF : Same F H) : ∀ (x y : D) (v : V), pureD x = true → pureD y = true → Dat X.K F A0 x v → Dat X.K F A0 y v → x = y
  | .non, _, _, _, p, h, g => by cases h; cases g; rfl
  | .bl _, _, _, _, p, h, g => by cases h; cases g; rfl
  | .int _, _, _, _, p, h, g => by cases h; cases g; rfl
  | .str _, _, _, _, p, h, g => by cases h; cases g; rfl
  | .ref _, _, _, p, _, h, g => by cases p
  | .exc _ _ _, _, _, p, _, h, g => by cases p
  | .tup xs, y, v, p, q, h, g => by
    obtain ⟨a, rfl⟩ : ∃ a, v = .ref a := by cases h; exact ⟨_, rfl⟩
    rcases AtA.two I hF (atA_of h p) (atA_of g q) with ⟨xs', ys, vs, e1, e2, d1, d2⟩ | ⟨xs', ys, vs, e1, e2, d1, d2⟩ | ⟨xs', ys, vs, e1, e2, d1, d2⟩ | ⟨ks, xs', ys, vs, e1, e2, d1, d2⟩ | ⟨ks, xs', ys, vs, e1, e2, d1, d2⟩ <;> cases e1
    subst e2
    rw [DatL.inj I hF xs ys vs p q d1 d2]
  | .lst xs, y, v, p, q, h, g => by
    obtain ⟨a, rfl⟩ : ∃ a, v = .ref a := by cases h; exact ⟨_, rfl⟩
    rcases AtA.two I hF (atA_of h p) (atA_of g q) with ⟨xs', ys, vs, e1, e2, d1, d2⟩ | ⟨xs', ys, vs, e1, e2, d1, d2⟩ | ⟨xs', ys, vs, e1, e2, d1, d2⟩ | ⟨ks, xs', ys, vs, e1, e2, d1, d2⟩ | ⟨ks, xs', ys, vs, e1, e2, d1, d2⟩ <;> cases e1
    subst e2
    rw [DatL.inj I hF xs ys vs p q d1 d2]
  | .frl xs, y, v, p, q, h, g => by
    obtain ⟨a, rfl⟩ : ∃ a, v = .ref a := by cases h; exact ⟨_, rfl⟩
    rcases AtA.two I hF (atA_of h p) (atA_of g q) with ⟨xs', ys, vs, e1, e2, d1, d2⟩ | ⟨xs', ys, vs, e1, e2, d1, d2⟩ | ⟨xs', ys, vs, e1, e2, d1, d2⟩ | ⟨ks, xs', ys, vs, e1, e2, d1, d2⟩ | ⟨ks, xs', ys, vs, e1, e2, d1, d2⟩ <;> cases e1
    subst e2
    rw [DatL.inj I hF xs ys vs p q d1 d2]
  | .dk ks0 xs, y, v, p, q, h, g => by
    obtain ⟨a, rfl⟩ : ∃ a, v = .ref a := by cases h; exact ⟨_, rfl⟩
    rcases AtA.two I hF (atA_of h p) (atA_of g q) with ⟨xs', ys, vs, e1, e2, d1, d2⟩ | ⟨xs', ys, vs, e1, e2, d1, d2⟩ | ⟨xs', ys, vs, e1, e2, d1, d2⟩ | ⟨ks, xs', ys, vs, e1, e2, d1, d2⟩ | ⟨ks, xs', ys, vs, e1, e2, d1, d2⟩ <;> cases e1
    subst e2
    rw [DatL.inj I hF xs ys vs p q d1 d2]
  | .dt ks0 xs, y, v, p, q, h, g => by
    obtain ⟨a, rfl⟩ : ∃ a, v = .ref a := by cases h; exact ⟨_, rfl⟩
    rcases AtA.two I hF (atA_of h p) (atA_of g q) with ⟨xs', ys, vs, e1, e2, d1, d2⟩ | ⟨xs', ys, vs, e1, e2, d1, d2⟩ | ⟨xs', ys, vs, e1, e2, d1, d2⟩ | ⟨ks, xs', ys, vs, e1, e2, d1, d2⟩ | ⟨ks, xs', ys, vs, e1, e2, d1, d2⟩ <;> cases e1
    subst e2
    rw [DatL.inj I hF xs ys vs p q d1 d2]
theorem DatL.inj (I : Inv X pins σ H s) (hF : Same F H) : ∀ (xs ys : List D) (vs : List V), pureL xs = true → pureL ys = true → DatL X.K F A0 xs vs → DatL X.K F A0 ys vs → xs = ys
  | [], _, _, _, _, h, g => by cases h; cases g; rfl
  | x :: xs, _, _, p, q, h, g => by
    cases h with
    | cons h1 h2 =>
      cases g with
      | cons g1 g2 =>
        have p' := Bool.and_eq_true_iff.mp p
        have q' := Bool.and_eq_true_iff.mp q
        rw [Dat.inj I hF x _ _ p'.1 q'.1 h1 g1, DatL.inj I hF xs _ _ p'.2 q'.2 h2 g2]
end
theorem allO_true {f : D → D → Option Bool} : ∀ {xs ys : List D} {vs : List V} {b : Bool}, (∀ x y v b, Dat X.K F A0 x v → Dat X.K F A0 y v → f x y = some b → b = true) → DatL X.K F A0 xs vs → DatL X.K F A0 ys vs → allO f xs ys = some b → b = true
  | [], _, _, _, _, h, g, e => by cases e; rfl
  | x :: xs, [], _, _, _, h, g, e => by cases e; rfl
  | x :: xs, y :: ys, _, b, hf, h, g, e => by
    cases h with
    | cons h1 h2 =>
      cases g with
      | cons g1 g2 =>
        unfold allO at e
        split at e
        · rename_i p q ep eq
          cases e
          rw [hf _ _ _ _ h1 g1 ep, allO_true hf h2 g2 eq]; rfl
        · cases e
/-- one value is equal to itself -/
theorem eqN_same (I : Inv X pins σ H s) (hF : Same F H) : ∀ (n : Nat) (x y : D) (v : V) (b : Bool), Dat X.K F A0 x v → Dat X.K F A0 y v → eqN n x y = some b → b = true
  | 0, _, _, _, _, _, _, e => by cases e
  | n + 1, x, y, v, b, h, g, e => by
    have ih := eqN_same I hF n
    cases h with
    | non => cases g; cases e; rfl
    | bl _ => cases g; cases e; simp
    | int _ => cases g; cases e; simp
    | str _ _ => cases g; cases e; simp
    | tup h1 h2 =>
      cases g with
      | tup g1 g2 =>
        have := I.tuple_inj (by first | exact .of (hF _ _ h1) | exact sqT_same hF (h1).q) (by first | exact .of (hF _ _ g1) | exact sqT_same hF (g1).q)
        subst this
        have hl : ∀ {xs ys : List D} {vs : List V}, DatL X.K F A0 xs vs → DatL X.K F A0 ys vs → xs.length = ys.length := fun a b => by rw [← a.length, ← b.length]
        unfold eqN at e
        simp only at e
        split at e
        · rename_i c ec
          cases e
          rw [allO_true ih h2 g2 ec, decide_eq_true (hl h2 g2)]; rfl
        · cases e
      | lst g1 g2 => exact (lt_excl I (by first | exact .of (hF _ _ g1) | exact sqT_same hF (g1).q) (by first | exact .of (hF _ _ h1) | exact sqT_same hF (h1).q)).elim
      | frl _ _ => cases e
      | dk _ _ => cases e
      | dt _ _ => cases e
      | ref _ => cases e
      | exc _ _ => cases e
    | lst h1 h2 =>
      cases g with
      | tup g1 g2 => exact (lt_excl I (by first | exact .of (hF _ _ h1) | exact sqT_same hF (h1).q) (by first | exact .of (hF _ _ g1) | exact sqT_same hF (g1).q)).elim
      | lst g1 g2 =>
        rw [h1] at g1; cases g1
        unfold eqN at e
        simp only at e
        split at e
        · exact allO_true ih h2 g2 e
        · rename_i hne
          exact absurd (by rw [← h2.length, ← g2.length]) hne
      | frl _ _ => cases e
      | dk _ _ => cases e
      | dt _ _ => cases e
      | ref _ => cases e
      | exc _ _ => cases e
    | frl _ _ => cases e
    | dk _ _ => cases e
    | dt _ _ => cases e
    | ref _ => cases e
    | exc _ _ => cases e
theorem allO_get {f : D → D → Option Bool} : ∀ {xs ys : List D} {b : Bool}, allO f xs ys = some b → ∀ (j : Nat) (x y : D), xs[j]? = some x → ys[j]? = some y → ∃ c, f x y = some c
  | [], _, _, _, j, x, y, h, _ => by simp at h
  | _ :: _, [], _, _, j, x, y, _, h => by simp at h
  | x0 :: xs, y0 :: ys, b, e, j, x, y, hx, hy => by
    unfold allO at e
    split at e
    · rename_i p q ep eq
      cases j with
      | zero => simp at hx hy; subst hx hy; exact ⟨_, ep⟩
      | succ j => exact allO_get eq j x y (by simpa using hx) (by simpa using hy)
    · cases e
/-- the pairs' answers, place by place -/
def pairB (f : D → D → Option Bool) (xs ys : List D) (j : Nat) : Bool := match xs[j]?, ys[j]? with
  | some x, some y => (f x y).getD true
  | _, _ => true
theorem allO_range {f : D → D → Option Bool} : ∀ {xs ys : List D} {b : Bool}, allO f xs ys = some b → (List.range (min xs.length ys.length)).all (pairB f xs ys) = b
  | [], _, _, e => by cases e; simp
  | _ :: _, [], _, e => by cases e; simp
  | x0 :: xs, y0 :: ys, b, e => by
    unfold allO at e
    split at e
    · rename_i p q ep eq
      cases e
      have ih := allO_range eq
      rw [show min (x0 :: xs).length (y0 :: ys).length = min xs.length ys.length + 1 by simp only [List.length_cons]; omega, List.range_succ_eq_map, List.all_cons, List.all_map]
      have h0 : pairB f (x0 :: xs) (y0 :: ys) 0 = p := by unfold pairB; simp [ep]
      have h1 : (pairB f (x0 :: xs) (y0 :: ys) ∘ Nat.succ) = pairB f xs ys := by funext j; unfold pairB; simp
      rw [h0, h1, ih]
    · cases e
theorem pairB_some {f : D → D → Option Bool} {xs ys : List D} {j : Nat} {x y : D} {c : Bool} (hx : xs[j]? = some x) (hy : ys[j]? = some y) (e : f x y = some c) : pairB f xs ys j = c := by
  unfold pairB; rw [hx, hy]; show (f x y).getD true = c; rw [e]; rfl
theorem vals_at {vs : List V} {its : List Value} (r : Vals vs its) {j : Nat} (h : j < its.toArray.size) : ∃ v, vs[j]? = some v ∧ RelV v its.toArray[j] := by
  have hl : j < its.length := by simpa using h
  have hv : j < vs.length := by rw [r.length]; exact hl
  obtain ⟨u, h1, h2⟩ := r.get (List.getElem?_eq_getElem hv)
  rw [List.getElem?_eq_getElem hl] at h1
  have e : its[j] = u := Option.some.inj h1
  exact ⟨_, List.getElem?_eq_getElem hv, by simpa [e] using h2⟩
theorem sz_of {K : PySem.W.Frag} {xs : List D} {vs : List V} {us : List Value} (d : DatL K F A0 xs vs) (r : Vals vs us) : us.toArray.size = xs.length := by rw [List.size_toArray, ← r.length, d.length]
/-- items of two lists: place by place -/
theorem items_eq {f : D → D → Option Bool} {A : Around} (ih : ∀ x y v w u t b, Dat X.K F A0 x v → Dat X.K F A0 y w → RelV v u → RelV w t → f x y = some b → SeqAt.EqAt A s u t b) {xs ys : List D} {vs ws : List V} {us ts : List Value} {b : Bool} (dx : DatL X.K F A0 xs vs) (dy : DatL X.K F A0 ys ws) (ru : Vals vs us) (rt : Vals ws ts)
    (e : allO f xs ys = some b) : ∀ j (h1 : j < us.toArray.size) (h2 : j < ts.toArray.size), SeqAt.EqAt A s us.toArray[j] ts.toArray[j] (pairB f xs ys j) := by
  intro j h1 h2
  obtain ⟨v, hv, rv⟩ := vals_at ru h1
  obtain ⟨w, hw, rw'⟩ := vals_at rt h2
  obtain ⟨x, hx, dx'⟩ := dx.get' hv
  obtain ⟨y, hy, dy'⟩ := dy.get' hw
  obtain ⟨c, ec⟩ := allO_get e j x y hx hy
  rw [pairB_some hx hy ec]
  exact ih _ _ _ _ _ _ _ dx' dy' rv rw' ec
/-- x == y within a list, a tuple -/
theorem eqAtD (I : Inv X pins σ H s) (hF : Same F H) : ∀ (n : Nat) (A : Around), A.units + n < cLine → ∀ (x y : D) (v w : V) (u t : Value) (b : Bool), Dat X.K F A0 x v → Dat X.K F A0 y w → RelV v u → RelV w t → eqN n x y = some b → SeqAt.EqAt A s u t b
  | 0, _, _, _, _, _, _, _, _, _, _, _, _, _, e => by cases e
  | n + 1, A, hA, x, y, v, w, u, t, b, dx, dy, rv, rw', e => by
    have hu : A.units < cLine := by omega
    have ih := eqAtD I hF n A.in1 (by show A.units + 1 + n < cLine; omega)
    cases dx with
    | non =>
      cases rv
      cases dy with
      | non => cases rw'; cases e; exact .same _
      | bl _ => cases rw'; cases e; exact .none_bool _
      | int _ => obtain ⟨_, rfl⟩ := rw'; cases e; exact .none_int _ _
      | str _ _ => obtain ⟨_, rfl⟩ := rw'; cases e; exact .none_str _ _
      | tup h1 _ => cases rw'; cases e; obtain ⟨_, _, l⟩ := isTup_of I (by first | exact .of (hF _ _ h1) | exact sqT_same hF (h1).q); exact .none_tuple l hu
      | lst h1 _ => cases rw'; cases e; obtain ⟨_, _, l⟩ := isList_of I (by first | exact .of (hF _ _ h1) | exact sqT_same hF (h1).q); exact .none_list l hu
      | frl _ _ => cases e
      | dk _ _ => cases e
      | dt _ _ => cases e
      | ref _ => cases e
      | exc _ _ => cases e
    | bl _ =>
      cases rv
      cases dy with
      | non => cases rw'; cases e; exact .bool_none _
      | bl _ => cases rw'; cases e; exact .bool_bool _ _
      | int _ => obtain ⟨_, rfl⟩ := rw'; cases e; exact .bool_int _ _ _
      | str _ _ => obtain ⟨_, rfl⟩ := rw'; cases e; exact .bool_str _ _ _
      | tup h1 _ => cases rw'; cases e; obtain ⟨_, _, l⟩ := isTup_of I (by first | exact .of (hF _ _ h1) | exact sqT_same hF (h1).q); exact .bool_tuple _ l hu
      | lst h1 _ => cases rw'; cases e; obtain ⟨_, _, l⟩ := isList_of I (by first | exact .of (hF _ _ h1) | exact sqT_same hF (h1).q); exact .bool_list _ l hu
      | frl _ _ => cases e
      | dk _ _ => cases e
      | dt _ _ => cases e
      | ref _ => cases e
      | exc _ _ => cases e
    | int _ =>
      obtain ⟨_, rfl⟩ := rv
      cases dy with
      | non => cases rw'; cases e; exact .int_none _ _
      | bl _ => cases rw'; cases e; exact .int_bool _ _ _
      | int _ => obtain ⟨_, rfl⟩ := rw'; cases e; exact .int_int _ _ _ _
      | str _ _ => obtain ⟨_, rfl⟩ := rw'; cases e; exact .int_str _ _ _ _
      | tup h1 _ => cases rw'; cases e; obtain ⟨_, _, l⟩ := isTup_of I (by first | exact .of (hF _ _ h1) | exact sqT_same hF (h1).q); exact .int_tuple _ _ l hu
      | lst h1 _ => cases rw'; cases e; obtain ⟨_, _, l⟩ := isList_of I (by first | exact .of (hF _ _ h1) | exact sqT_same hF (h1).q); exact .int_list _ _ l hu
      | frl _ _ => cases e
      | dk _ _ => cases e
      | dt _ _ => cases e
      | ref _ => cases e
      | exc _ _ => cases e
    | str _ _ =>
      obtain ⟨_, rfl⟩ := rv
      cases dy with
      | non => cases rw'; cases e; exact .str_none _ _
      | bl _ => cases rw'; cases e; exact .str_bool _ _ _
      | int _ => obtain ⟨_, rfl⟩ := rw'; cases e; exact .str_int _ _ _ _
      | str _ _ => obtain ⟨_, rfl⟩ := rw'; cases e; exact .str_str _ _ _ _
      | tup h1 _ => cases rw'; cases e; obtain ⟨_, _, l⟩ := isTup_of I (by first | exact .of (hF _ _ h1) | exact sqT_same hF (h1).q); exact .str_tuple _ _ l hu
      | lst h1 _ => cases rw'; cases e; obtain ⟨_, _, l⟩ := isList_of I (by first | exact .of (hF _ _ h1) | exact sqT_same hF (h1).q); exact .str_list _ _ l hu
      | frl _ _ => cases e
      | dk _ _ => cases e
      | dt _ _ => cases e
      | ref _ => cases e
      | exc _ _ => cases e
    | tup h1 h2 =>
      cases rv
      obtain ⟨us, ru, l⟩ := isTup_of I (by first | exact .of (hF _ _ h1) | exact sqT_same hF (h1).q)
      cases dy with
      | non => cases rw'; cases e; exact .tuple_none l hu
      | bl _ => cases rw'; cases e; exact .tuple_bool _ l hu
      | int _ => obtain ⟨_, rfl⟩ := rw'; cases e; exact .tuple_int _ _ l hu
      | str _ _ => obtain ⟨_, rfl⟩ := rw'; cases e; exact .tuple_str _ _ l hu
      | tup g1 g2 =>
        cases rw'
        obtain ⟨ts, rt, l2⟩ := isTup_of I (by first | exact .of (hF _ _ g1) | exact sqT_same hF (g1).q)
        rename_i a _ _ a' _ _
        by_cases ea : a = a'
        · subst ea
          have hb := eqN_same I hF (n + 1) _ _ _ _ (.tup h1 h2) (.tup g1 g2) e
          rw [hb]; exact .same _
        · refine .of_refs ea ?_
          unfold eqN at e
          simp only at e
          split at e
          · rename_i c ec
            have hr := SeqAt.RcAt.tuples l l2 hu (items_eq ih h2 g2 ru rt ec)
            have el := sz_of h2 ru
            have el2 := sz_of g2 rt
            rw [el, el2, allO_range ec] at hr
            cases e
            have e3 : ∀ (p q : Nat), (p == q) = decide (p = q) := fun p q => by by_cases z : p = q <;> simp [z]
            rw [e3] at hr
            exact hr
          · cases e
      | lst g1 _ => cases rw'; cases e; obtain ⟨_, _, l2⟩ := isList_of I (by first | exact .of (hF _ _ g1) | exact sqT_same hF (g1).q); exact .tuple_list l l2 hu
      | frl _ _ => cases e
      | dk _ _ => cases e
      | dt _ _ => cases e
      | ref _ => cases e
      | exc _ _ => cases e
    | lst h1 h2 =>
      cases rv
      obtain ⟨us, ru, l⟩ := isList_of I (by first | exact .of (hF _ _ h1) | exact sqT_same hF (h1).q)
      cases dy with
      | non => cases rw'; cases e; exact .list_none l hu
      | bl _ => cases rw'; cases e; exact .list_bool _ l hu
      | int _ => obtain ⟨_, rfl⟩ := rw'; cases e; exact .list_int _ _ l hu
      | str _ _ => obtain ⟨_, rfl⟩ := rw'; cases e; exact .list_str _ _ l hu
      | tup g1 _ => cases rw'; cases e; obtain ⟨_, _, l2⟩ := isTup_of I (by first | exact .of (hF _ _ g1) | exact sqT_same hF (g1).q); exact .list_tuple l l2 hu
      | lst g1 g2 =>
        cases rw'
        obtain ⟨ts, rt, l2⟩ := isList_of I (by first | exact .of (hF _ _ g1) | exact sqT_same hF (g1).q)
        rename_i a _ _ a' _ _
        by_cases ea : a = a'
        · subst ea
          have hb := eqN_same I hF (n + 1) _ _ _ _ (.lst h1 h2) (.lst g1 g2) e
          rw [hb]; exact .same _
        · refine .of_refs ea ?_
          have el := sz_of h2 ru
          have el2 := sz_of g2 rt
          unfold eqN at e
          simp only at e
          split at e
          · rename_i hl
            have hr := SeqAt.RcAt.lists l l2 (by rw [el, el2, hl]) hu (items_eq ih h2 g2 ru rt e)
            have := allO_range e
            rw [hl, Nat.min_self] at this
            rw [el, hl, this] at hr
            exact hr
          · rename_i hl
            cases e
            exact SeqAt.RcAt.lists_lengths l l2 (by rw [el, el2]; simpa using hl) hu
      | frl _ _ => cases e
      | dk _ _ => cases e
      | dt _ _ => cases e
      | ref _ => cases e
      | exc _ _ => cases e
    | frl _ _ => cases e
    | dk _ _ => cases e
    | dt _ _ => cases e
    | ref _ => cases e
    | exc _ _ => cases e
/-- how an operand of == stands: a list also one of the store -/
inductive Op (K : PySem.W.Frag) (F H : Hp) (A : List Addr) : D → V → Prop
  | dat {x : D} {v : V} : Dat K F A x v → Op K F H A x v
  | lst {a : Addr} {vs : List V} {ds : List D} : H a = some (.lst vs) → DatL K F A ds vs → Op K F H A (.lst ds) (.ref a)
theorem Op.two {K : PySem.W.Frag} {A : List Addr} {x : D} {v : V} (hF : Same F H) (h : Op K F H A x v) : (∃ ds a vs, x = .lst ds ∧ v = .ref a ∧ H a = some (.lst vs) ∧ DatL K F A ds vs) ∨ ((∀ ds, x ≠ .lst ds) ∧ Dat K F A x v) := by
  cases h with
  | lst h1 h2 => exact .inl ⟨_, _, _, rfl, rfl, h1, h2⟩
  | dat h =>
    cases h with
    | exc h1 h2 => exact .inr ⟨(fun _ z => nomatch z), .exc h1 h2⟩
    | lst h1 h2 => exact .inl ⟨_, _, _, rfl, rfl, hF _ _ h1, h2⟩
    | non => exact .inr ⟨(fun _ z => nomatch z), .non⟩
    | bl _ => exact .inr ⟨(fun _ z => nomatch z), .bl _⟩
    | int _ => exact .inr ⟨(fun _ z => nomatch z), .int _⟩
    | str _ h => exact .inr ⟨(fun _ z => nomatch z), .str _ h⟩
    | tup h1 h2 => exact .inr ⟨(fun _ z => nomatch z), .tup h1 h2⟩
    | frl h1 h2 => exact .inr ⟨(fun _ z => nomatch z), .frl h1 h2⟩
    | dk h1 h2 => exact .inr ⟨(fun _ z => nomatch z), .dk h1 h2⟩
    | dt h1 h2 => exact .inr ⟨(fun _ z => nomatch z), .dt h1 h2⟩
    | ref h1 => exact .inr ⟨(fun _ z => nomatch z), .ref h1⟩
/-- both answers of a comparison -/
def Rc2 (A : Around) (s : Shared) (u t : Value) (b : Bool) : Prop := SeqAt.RcAt A s u t b ∧ SeqAt.RcNeAt A s u t (!b)
/-- x == y, x != y -/
theorem rcD (I : Inv X pins σ H s) (hF : Same F H) (n : Nat) (A : Around) (hA : A.units + (n + 1) < cLine) (x y : D) (v w : V) (u t : Value) (b : Bool) (ox : Op X.K F H A0 x v) (oy : Op X.K F H A0 y w) (rv : RelV v u) (rw' : RelV w t) (e : eqN (n + 1) x y = some b) : Rc2 A s u t b := by
  have hu : A.units < cLine := by omega
  have ih := eqAtD I hF (A0 := A0) n A.in1 (by show A.units + 1 + n < cLine; omega)
  rcases ox.two hF with ⟨xs, a, vs, rfl, rfl, h1, h2⟩ | ⟨nx, dx⟩
  · cases rv
    obtain ⟨us, ru, l⟩ := isList_of I (.of h1)
    rcases oy.two hF with ⟨ys, a', ws, rfl, rfl, g1, g2⟩ | ⟨ny, dy⟩
    · cases rw'
      obtain ⟨ts, rt, l2⟩ := isList_of I (.of g1)
      have el := sz_of h2 ru
      have el2 := sz_of g2 rt
      unfold eqN at e
      simp only at e
      split at e
      · rename_i hl
        have it := items_eq ih h2 g2 ru rt e
        have hr := SeqAt.RcAt.lists l l2 (by rw [el, el2, hl]) hu it
        have hr2 := SeqAt.RcNeAt.lists l l2 (by rw [el, el2, hl]) hu it
        have := allO_range e
        rw [hl, Nat.min_self] at this
        rw [el, hl, this] at hr hr2
        exact ⟨hr, hr2⟩
      · rename_i hl
        cases e
        exact ⟨SeqAt.RcAt.lists_lengths l l2 (by rw [el, el2]; simpa using hl) hu, SeqAt.RcNeAt.lists_lengths l l2 (by rw [el, el2]; simpa using hl) hu⟩
    · cases dy with
      | non => cases rw'; cases e; exact ⟨.list_none l hu, .list_none l hu⟩
      | bl _ => cases rw'; cases e; exact ⟨.list_bool _ l hu, .list_bool _ l hu⟩
      | int _ => obtain ⟨_, rfl⟩ := rw'; cases e; exact ⟨.list_int _ _ l hu, .list_int _ _ l hu⟩
      | str _ _ => obtain ⟨_, rfl⟩ := rw'; cases e; exact ⟨.list_str _ _ l hu, .list_str _ _ l hu⟩
      | tup g1 _ => cases rw'; cases e; obtain ⟨_, _, l2⟩ := isTup_of I (by first | exact .of (hF _ _ g1) | exact sqT_same hF (g1).q); exact ⟨.list_tuple l l2 hu, .list_tuple l l2 hu⟩
      | lst _ _ => exact absurd rfl (ny _)
      | frl _ _ => cases e
      | dk _ _ => cases e
      | dt _ _ => cases e
      | ref _ => cases e
      | exc _ _ => cases e
  · rcases oy.two hF with ⟨ys, a', ws, rfl, rfl, g1, g2⟩ | ⟨ny, dy⟩
    · cases rw'
      obtain ⟨ts, rt, l2⟩ := isList_of I (.of g1)
      cases dx with
      | non => cases rv; cases e; exact ⟨.none_list l2 hu, .none_list l2 hu⟩
      | bl _ => cases rv; cases e; exact ⟨.bool_list _ l2 hu, .bool_list _ l2 hu⟩
      | int _ => obtain ⟨_, rfl⟩ := rv; cases e; exact ⟨.int_list _ _ l2 hu, .int_list _ _ l2 hu⟩
      | str _ _ => obtain ⟨_, rfl⟩ := rv; cases e; exact ⟨.str_list _ _ l2 hu, .str_list _ _ l2 hu⟩
      | tup h1 _ => cases rv; cases e; obtain ⟨_, _, l⟩ := isTup_of I (by first | exact .of (hF _ _ h1) | exact sqT_same hF (h1).q); exact ⟨.tuple_list l l2 hu, .tuple_list l l2 hu⟩
      | lst _ _ => exact absurd rfl (nx _)
      | frl _ _ => cases e
      | dk _ _ => cases e
      | dt _ _ => cases e
      | ref _ => cases e
      | exc _ _ => cases e
    · cases dx with
      | non =>
        cases rv
        cases dy with
        | non => cases rw'; cases e; exact ⟨.none_none, .none_none⟩
        | bl _ => cases rw'; cases e; exact ⟨.none_bool _, .none_bool _⟩
        | int _ => obtain ⟨_, rfl⟩ := rw'; cases e; exact ⟨.none_int _ _, .none_int _ _⟩
        | str _ _ => obtain ⟨_, rfl⟩ := rw'; cases e; exact ⟨.none_str _ _, .none_str _ _⟩
        | tup h1 _ => cases rw'; cases e; obtain ⟨_, _, l⟩ := isTup_of I (by first | exact .of (hF _ _ h1) | exact sqT_same hF (h1).q); exact ⟨.none_tuple l hu, .none_tuple l hu⟩
        | lst _ _ => exact absurd rfl (ny _)
        | frl _ _ => cases e
        | dk _ _ => cases e
        | dt _ _ => cases e
        | ref _ => cases e
        | exc _ _ => cases e
      | bl _ =>
        cases rv
        cases dy with
        | non => cases rw'; cases e; exact ⟨.bool_none _, .bool_none _⟩
        | bl _ => cases rw'; cases e; exact ⟨.bool_bool _ _, .bool_bool _ _⟩
        | int _ => obtain ⟨_, rfl⟩ := rw'; cases e; exact ⟨.bool_int _ _ _, .bool_int _ _ _⟩
        | str _ _ => obtain ⟨_, rfl⟩ := rw'; cases e; exact ⟨.bool_str _ _ _, .bool_str _ _ _⟩
        | tup h1 _ => cases rw'; cases e; obtain ⟨_, _, l⟩ := isTup_of I (by first | exact .of (hF _ _ h1) | exact sqT_same hF (h1).q); exact ⟨.bool_tuple _ l hu, .bool_tuple _ l hu⟩
        | lst _ _ => exact absurd rfl (ny _)
        | frl _ _ => cases e
        | dk _ _ => cases e
        | dt _ _ => cases e
        | ref _ => cases e
        | exc _ _ => cases e
      | int _ =>
        obtain ⟨_, rfl⟩ := rv
        cases dy with
        | non => cases rw'; cases e; exact ⟨.int_none _ _, .int_none _ _⟩
        | bl _ => cases rw'; cases e; exact ⟨.int_bool _ _ _, .int_bool _ _ _⟩
        | int _ => obtain ⟨_, rfl⟩ := rw'; cases e; exact ⟨.int_int _ _ _ _, .int_int _ _ _ _⟩
        | str _ _ => obtain ⟨_, rfl⟩ := rw'; cases e; exact ⟨.int_str _ _ _ _, .int_str _ _ _ _⟩
        | tup h1 _ => cases rw'; cases e; obtain ⟨_, _, l⟩ := isTup_of I (by first | exact .of (hF _ _ h1) | exact sqT_same hF (h1).q); exact ⟨.int_tuple _ _ l hu, .int_tuple _ _ l hu⟩
        | lst _ _ => exact absurd rfl (ny _)
        | frl _ _ => cases e
        | dk _ _ => cases e
        | dt _ _ => cases e
        | ref _ => cases e
        | exc _ _ => cases e
      | str _ _ =>
        obtain ⟨_, rfl⟩ := rv
        cases dy with
        | non => cases rw'; cases e; exact ⟨.str_none _ _, .str_none _ _⟩
        | bl _ => cases rw'; cases e; exact ⟨.str_bool _ _ _, .str_bool _ _ _⟩
        | int _ => obtain ⟨_, rfl⟩ := rw'; cases e; exact ⟨.str_int _ _ _ _, .str_int _ _ _ _⟩
        | str _ _ => obtain ⟨_, rfl⟩ := rw'; cases e; exact ⟨.str_str _ _ _ _, .str_str _ _ _ _⟩
        | tup h1 _ => cases rw'; cases e; obtain ⟨_, _, l⟩ := isTup_of I (by first | exact .of (hF _ _ h1) | exact sqT_same hF (h1).q); exact ⟨.str_tuple _ _ l hu, .str_tuple _ _ l hu⟩
        | lst _ _ => exact absurd rfl (ny _)
        | frl _ _ => cases e
        | dk _ _ => cases e
        | dt _ _ => cases e
        | ref _ => cases e
        | exc _ _ => cases e
      | tup h1 h2 =>
        cases rv
        obtain ⟨us, ru, l⟩ := isTup_of I (by first | exact .of (hF _ _ h1) | exact sqT_same hF (h1).q)
        cases dy with
        | non => cases rw'; cases e; exact ⟨.tuple_none l hu, .tuple_none l hu⟩
        | bl _ => cases rw'; cases e; exact ⟨.tuple_bool _ l hu, .tuple_bool _ l hu⟩
        | int _ => obtain ⟨_, rfl⟩ := rw'; cases e; exact ⟨.tuple_int _ _ l hu, .tuple_int _ _ l hu⟩
        | str _ _ => obtain ⟨_, rfl⟩ := rw'; cases e; exact ⟨.tuple_str _ _ l hu, .tuple_str _ _ l hu⟩
        | tup g1 g2 =>
          cases rw'
          obtain ⟨ts, rt, l2⟩ := isTup_of I (by first | exact .of (hF _ _ g1) | exact sqT_same hF (g1).q)
          unfold eqN at e
          simp only at e
          split at e
          · rename_i c ec
            have it := items_eq ih h2 g2 ru rt ec
            have hr := SeqAt.RcAt.tuples l l2 hu it
            have hr2 := SeqAt.RcNeAt.tuples l l2 hu it
            have el := sz_of h2 ru
            have el2 := sz_of g2 rt
            rw [el, el2, allO_range ec] at hr hr2
            cases e
            have e3 : ∀ (p q : Nat), (p == q) = decide (p = q) := fun p q => by by_cases z : p = q <;> simp [z]
            rw [e3] at hr hr2
            exact ⟨hr, hr2⟩
          · cases e
        | lst _ _ => exact absurd rfl (ny _)
        | frl _ _ => cases e
        | dk _ _ => cases e
        | dt _ _ => cases e
        | ref _ => cases e
        | exc _ _ => cases e
      | lst _ _ => exact absurd rfl (nx _)
      | frl _ _ => cases e
      | dk _ _ => cases e
      | dt _ _ => cases e
      | ref _ => cases e
      | exc _ _ => cases e
end
end Dl
set_option Elab.async false
set_option linter.all false
set_option autoImplicit false
set_option maxRecDepth 100000
set_option maxHeartbeats 4000000
namespace Dl
open PySem PySem.Spec PyProof.Rows L2
def drf (s : Sto) : D → D
  | .ref l => match s[l]? with
    | some (some (.lst ds)) => .lst ds
    | _ => .ref l
  | x => x
theorem drf_ref {s : Sto} {l : Nat} {ds : List D} (h : s[l]? = some (some (.lst ds))) : drf s (.ref l) = .lst ds := by
  show (match s[l]? with | some (some (.lst ds)) => D.lst ds | _ => .ref l) = .lst ds
  rw [h]
theorem op_of {K : PySem.W.Frag} {B : List Addr} {H : Hp} {A : List Addr} {s : Sto} {x : D} {v : V} (R : RepS K B H A s) (dv : Dat K (Fz B H A s) A x v) : Op K (Fz B H A s) H A (drf s x) v := by
  by_cases e : ∃ l ds, x = .ref l ∧ s[l]? = some (some (.lst ds))
  · obtain ⟨l, ds, rfl, h⟩ := e
    rw [drf_ref h]
    obtain ⟨a, vs, rfl, h1, h2⟩ := of_seqM R dv (seqM_ref h)
    exact .lst h1 h2
  · have : drf s x = x := by
      cases x with
      | ref l =>
        show (match s[l]? with | some (some (.lst ds)) => D.lst ds | _ => .ref l) = .ref l
        split
        · rename_i ds h; exact absurd ⟨l, ds, rfl, h⟩ e
        · rfl
      | _ => rfl
    rw [this]
    exact .dat dv
section
variable {X : Cx}
def rEqN (K : PySem.W.Frag) (g : Bool → Bool) : R2 := fun x y H Q => ∃ (F : Hp) (A0 : List Addr) (dx dy : D) (b : Bool), Same F H ∧ Op K F H A0 dx x ∧ Op K F H A0 dy y ∧ eqN 60 dx dy = some b ∧ Q (.bl (g b)) H
theorem op_eqN (hu : X.A.units + 64 < cLine) : OpR X (compareOp .Eq) (rEqN X.K id) := by
  intro pins s σ H x y v u Q I rx ry h
  obtain ⟨F, A0, dx, dy, b, hF, ox, oy, e, q⟩ := h
  exact (rcD I hF 59 X.A (by omega) dx dy x y v u b ox oy rx ry e).1 _ _ _ _ ⟨.bl b, H, I, rfl, q⟩
theorem op_neN (hu : X.A.units + 64 < cLine) : OpR X (compareOp .NotEq) (rEqN X.K Bool.not) := by
  intro pins s σ H x y v u Q I rx ry h
  obtain ⟨F, A0, dx, dy, b, hF, ox, oy, e, q⟩ := h
  exact (rcD I hF 59 X.A (by omega) dx dy x y v u b ox oy rx ry e).2 _ _ _ _ ⟨.bl (!b), H, I, rfl, q⟩
def eqF (s : Sto) (x y : D) : Option D := (eqN 60 (drf s x) (drf s y)).map fun b => .bl b
def neF (s : Sto) (x y : D) : Option D := (eqN 60 (drf s x) (drf s y)).map fun b => .bl (!b)
theorem opx_eq (hu : X.A.units + 64 < cLine) : OpX X (compareOp .Eq) (oF eqF) := opx_of (op_eqN hu) fun x y s v w H A B Q R dv dw ⟨z, e, q⟩ => by
  unfold eqF at e
  cases h : eqN 60 (drf s x) (drf s y) with
  | none => rw [h] at e; cases e
  | some b =>
    rw [h] at e
    cases e
    exact ⟨_, _, _, _, b, fz_same, op_of R dv, op_of R dw, h, q.here R (.bl _)⟩
theorem opx_ne (hu : X.A.units + 64 < cLine) : OpX X (compareOp .NotEq) (oF neF) := opx_of (op_neN hu) fun x y s v w H A B Q R dv dw ⟨z, e, q⟩ => by
  unfold neF at e
  cases h : eqN 60 (drf s x) (drf s y) with
  | none => rw [h] at e; cases e
  | some b =>
    rw [h] at e
    cases e
    exact ⟨_, _, _, _, b, fz_same, op_of R dv, op_of R dw, h, q.here R (.bl _)⟩
theorem any_e {I : Prop} {ds : List D} {its : List Value} {e : Value → Bool} {f : D → Bool} (h1 : ∀ w ∈ its, e w = true → ∃ d ∈ ds, f d = true) (h2 : ∀ d ∈ ds, f d = true → ∃ w ∈ its, e w = true) : its.any e = ds.any f := by
  cases h : ds.any f with
  | true =>
    obtain ⟨d, hd, fd⟩ := List.any_eq_true.mp h
    obtain ⟨w, hw, ew⟩ := h2 d hd fd
    exact List.any_eq_true.mpr ⟨w, hw, ew⟩
  | false =>
    cases g : its.any e with
    | false => rfl
    | true =>
      obtain ⟨w, hw, ew⟩ := List.any_eq_true.mp g
      obtain ⟨d, hd, fd⟩ := h1 w hw ew
      have : ds.any f = true := List.any_eq_true.mpr ⟨d, hd, fd⟩
      rw [h] at this; cases this
theorem pureL_mem : ∀ {ds : List D} {d : D}, pureL ds = true → d ∈ ds → pureD d = true
  | x :: xs, d, p, h => by
    have p' := Bool.and_eq_true_iff.mp p
    rcases List.mem_cons.mp h with rfl | h
    · exact p'.1
    · exact pureL_mem p'.2 h
def inAny (ds : List D) (x : D) : Bool := ds.any fun d => (eqN 59 d x).getD false
def InOk (ds : List D) (x : D) : Prop := pureL ds = true ∧ ∀ d ∈ ds, ∃ b, eqN 59 d x = some b
def rInN (K : PySem.W.Frag) (g : Bool → Bool) : R2 := fun x y H Q => ∃ (F : Hp) (A0 : List Addr) (p : Addr) (vs : List V) (ds : List D) (dx : D), Same F H ∧ y = .ref p ∧ (SqL K H p vs ∨ SqT K H p vs) ∧ DatL K F A0 ds vs ∧ Dat K F A0 dx x ∧ InOk ds dx ∧ Q (.bl (g (inAny ds dx))) H
open Classical in
theorem inN_core {pins : List (Addr × Obj)} {s : Shared} {σ : L2.St} {H : Hp} (hu : X.A.units + 64 < cLine) (I : Inv X pins σ H s) {x : V} {v : Value} {F : Hp} {A0 : List Addr} {vs : List V} {ds : List D} {dx : D} {its : List Value} (hF : Same F H) (rx : RelV x v) (r : Vals vs its) (hd : DatL X.K F A0 ds vs) (hx : Dat X.K F A0 dx x) (ok : InOk ds dx) :
    ∃ e : Value → Bool, (∀ y, y ∈ its.toArray → SeqAt.EqAt X.A.in1 s y v (e y)) ∧ its.toArray.any e = inAny ds dx := by
  have key : ∀ i (u : Value), its[i]? = some u → ∃ d z, ds[i]? = some d ∧ Dat X.K F A0 d z ∧ RelV z u := fun i u h => by
    have hl : i < vs.length := by rw [r.length]; exact (List.getElem?_eq_some_iff.mp h).1
    obtain ⟨u', h1, h2⟩ := r.get (List.getElem?_eq_getElem hl)
    rw [h] at h1; cases h1
    obtain ⟨d, h3, h4⟩ := hd.get' (List.getElem?_eq_getElem hl)
    exact ⟨d, _, h3, h4, h2⟩
  let e : Value → Bool := fun u => decide (∃ d z, d ∈ ds ∧ Dat X.K F A0 d z ∧ RelV z u ∧ eqN 59 d dx = some true)
  refine ⟨e, fun y hy => ?_, ?_⟩
  · have hy' : y ∈ its := by simpa using hy
    obtain ⟨i, hi⟩ := List.getElem?_of_mem hy'
    obtain ⟨d, z, h1, h2, h3⟩ := key i y hi
    have hm := List.mem_of_getElem? h1
    obtain ⟨b, hb⟩ := ok.2 d hm
    have ans := eqAtD I hF 59 X.A.in1 (by show X.A.units + 1 + 59 < cLine; omega) d dx z x y v b h2 hx h3 rx hb
    have eb : e y = b := by
      cases b with
      | true => exact decide_eq_true ⟨d, z, hm, h2, h3, hb⟩
      | false =>
        refine decide_eq_false fun ⟨d', z', hm', h2', h3', hb'⟩ => ?_
        have ez := h3.inj h3'
        subst ez
        have := Dat.inj I hF d d' z (pureL_mem ok.1 hm) (pureL_mem ok.1 hm') h2 h2'
        subst this
        rw [hb] at hb'; cases hb'
    rw [eb]
    exact ans
  · show its.toArray.any e = _
    rw [show its.toArray.any e = its.any e by simp]
    refine any_e (I := True) (fun u hu he => ?_) fun d hm hf => ?_
    · obtain ⟨d, z, hm, _, _, hb⟩ := of_decide_eq_true he
      exact ⟨d, hm, by rw [hb]; rfl⟩
    · obtain ⟨i, hi⟩ := List.getElem?_of_mem hm
      obtain ⟨z, h1, h2⟩ := hd.get hi
      obtain ⟨u, h3, h4⟩ := r.get h1
      refine ⟨u, List.mem_of_getElem? h3, decide_eq_true ⟨d, z, hm, h2, h4, ?_⟩⟩
      obtain ⟨b, hb⟩ := ok.2 d hm
      rw [hb] at hf ⊢
      simpa using hf
theorem op_inN (hu : X.A.units + 64 < cLine) : OpR X (compareOp .In) (rInN X.K id) := by
  intro pins s σ H x y v u Q I rx ry h
  obtain ⟨F, A0, p, vs, ds, dx, hF, rfl, hq, hd, hx, ok, q⟩ := h
  cases ry
  rcases hq with hq | hq
  · obtain ⟨its, r, l⟩ := isList_of I hq
    obtain ⟨e, h1, h2⟩ := inN_core hu I hF rx r hd hx ok
    exact SeqAt.in_listAt e l h1 ⟨.bl _, H, I, by rw [h2]; rfl, q⟩
  · obtain ⟨its, r, l⟩ := isTup_of I hq
    obtain ⟨e, h1, h2⟩ := inN_core hu I hF rx r hd hx ok
    exact SeqAt.in_tupleAt e l h1 ⟨.bl _, H, I, by rw [h2]; rfl, q⟩
/-- x in a list or a tuple -/
def oIn (g : Bool → Bool) : O2 := fun x y s Q => ∃ ds, (seqL s y = some ds ∨ seqT y = some ds) ∧ InOk ds x ∧ Q (.bl (g (inAny ds x))) s
theorem mono_oIn {g : Bool → Bool} : MonoO (oIn g) := fun _ _ _ _ _ f ⟨ds, e, h, q⟩ => ⟨ds, e, h, f _ _ q⟩
theorem oIn_rd {g : Bool → Bool} (x y : D) (s : Sto) (v w : V) (H : Hp) (A B : List Addr) (Q : VK) (R : RepS X.K B H A s) (dv : Dat X.K (Fz B H A s) A x v) (dw : Dat X.K (Fz B H A s) A y w) (h : oIn g x y s (PostE X.K B H A s Q)) : rInN X.K g v w H Q := by
  obtain ⟨ds, e, ok, q⟩ := h
  rcases e with e | e
  · obtain ⟨a, vs, rfl, h1, h2⟩ := of_seqL R dw e
    exact ⟨_, _, a, vs, ds, x, fz_same, rfl, .inl h1, h2, dv, ok, q.here R (.bl _)⟩
  · obtain ⟨a, vs, rfl, h1, h2⟩ := of_seqT dw e
    exact ⟨_, _, a, vs, ds, x, fz_same, rfl, .inr h1, h2, dv, ok, q.here R (.bl _)⟩
theorem opx_in (hu : X.A.units + 64 < cLine) : OpX X (compareOp .In) (oIn id) := opx_of (op_inN hu) oIn_rd
/-- a sign in a text -/
def oInS (g : Bool → Bool) : O2 := fun x y s Q => ∃ (c : Nat) (z : Str), x = .str ⟨#[c]⟩ ∧ y = .str z ∧ Q (.bl (g (decide (c ∈ z.cps.toList)))) s
theorem mono_oInS {g : Bool → Bool} : MonoO (oInS g) := fun _ _ _ _ _ f ⟨c, z, e, h, q⟩ => ⟨c, z, e, h, f _ _ q⟩
theorem opx_inS : OpX X (compareOp .In) (oInS id) := opx_of op_in_sign fun x y s v w H A B Q R dv dw ⟨c, z, ex, ey, q⟩ => by
  subst ex ey
  cases dv
  cases dw
  exact ⟨c, z, rfl, rfl, q.here R (.bl _)⟩
def oOr (o o' : O2) : O2 := fun x y s Q => o x y s Q ∨ o' x y s Q
theorem mono_oOr {o o' : O2} (m : MonoO o) (m' : MonoO o') : MonoO (oOr o o') := fun _ _ _ _ _ f h => h.elim (fun h => .inl (m _ _ _ _ _ f h)) fun h => .inr (m' _ _ _ _ _ f h)
theorem opx_inA (hu : X.A.units + 64 < cLine) : OpX X (compareOp .In) (oOr (oInS id) (oIn id)) := opx_inS.or (opx_in hu)
/-- is None, is not None -/
def isNone : D → Bool
  | .non => true
  | _ => false
def isNotF (_ : Sto) (x y : D) : Option D := match y with
  | .non => some (.bl (!isNone x))
  | _ => none
theorem isNone_v {K : PySem.W.Frag} {F : Hp} {A : List Addr} {x : D} {v : V} (h : Dat K F A x v) : decide (v = .non) = isNone x := by
  cases h <;> first | rfl | exact decide_eq_false (fun z => nomatch z)
theorem opx_isNot : OpX X (compareOp .IsNot) (oF isNotF) := opx_of op_notN fun x y s v w H A B Q R dv dw ⟨z, e, q⟩ => by
  cases y <;> first | cases e | skip
  cases dw
  refine ⟨rfl, ?_⟩
  rw [isNone_v dv]
  exact q.here R (.bl _)
end
end Dl
set_option Elab.async false
set_option linter.all false
set_option autoImplicit false
set_option maxRecDepth 100000
set_option maxHeartbeats 4000000
namespace Dl
open PySem PySem.Spec PyProof.Rows L2
def tyName (s : Sto) : D → Option String
  | .non => some "NoneType"
  | .bl _ => some "bool"
  | .int _ => some "int"
  | .str _ => some "str"
  | .tup _ => some "tuple"
  | .lst _ => some "list"
  | .frl _ => none
  | .exc _ _ _ => none
  | .dk _ _ => some "dict"
  | .dt _ _ => some "dict"
  | .ref l => match s[l]? with
    | some (some (.lst _)) => some "list"
    | some (some (.dk _ _)) => some "dict"
    | some (some (.dt _ _)) => some "dict"
    | some (some (.fdk _ _)) => some "dict"
    | _ => none
theorem tyx_tup {K : PySem.W.Frag} {H : Hp} {a : Addr} {vs : List V} (h : SqT K H a vs) : TyX K H (.ref a) (.type "tuple") := by
  rcases h with (h | ⟨o, h⟩) | ⟨o, its, n, h1, h2, h3, h4⟩
  · exact .base (.tup h)
  · exact .fTuple h
  · exact .kTuple h1 h2
theorem tyx_of {K : PySem.W.Frag} {B : List Addr} {H : Hp} {A : List Addr} {s : Sto} {x : D} {v : V} {n : String} (R : RepS K B H A s) (dv : Dat K (Fz B H A s) A x v) (h : tyName s x = some n) : TyX K H v (.type n) := by
  cases dv with
  | non => cases h; exact .base .non
  | bl _ => cases h; exact .base (.bl _)
  | int _ => cases h; exact .base (.int _)
  | str _ _ => cases h; exact .base (.str _)
  | tup h1 _ =>
    cases h
    exact tyx_tup (sqT_fz h1)
  | lst h1 _ => cases h; exact .base (.lst (fz_of h1).1)
  | frl _ _ => cases h
  | exc _ _ => cases h
  | dk h1 _ => cases h; exact .base (.dK (fz_of h1).1)
  | dt h1 _ => cases h; exact .base (.dT (fz_of h1).1)
  | @ref l a hA =>
    cases hs : s[l]? with
    | none => unfold tyName at h; simp only [hs] at h; cases h
    | some o =>
      cases o with
      | none => unfold tyName at h; simp only [hs] at h; cases h
      | some mo =>
        obtain ⟨a', ha', ob⟩ := R.ob l mo hs
        rw [hA] at ha'; cases ha'
        cases mo with
        | lst ds => unfold tyName at h; simp only [hs] at h; cases h; obtain ⟨vs, e, _⟩ := ob; exact .base (.lst e)
        | dk ks ds => unfold tyName at h; simp only [hs] at h; cases h; obtain ⟨vs, e, _⟩ := ob; exact .base (.dK e)
        | dt ks ds => unfold tyName at h; simp only [hs] at h; cases h; obtain ⟨vs, e, _⟩ := ob; exact .base (.dT e)
        | ins C fs => unfold tyName at h; simp only [hs] at h; cases h
        | fdk ks ds => unfold tyName at h; simp only [hs] at h; cases h; obtain ⟨o, vs, e, _⟩ := ob; exact .fDict e
        | fdt ks ds => unfold tyName at h; simp only [hs] at h; cases h
/-- the built-in classes that are asked for -/
def isSub (a T : String) : Bool := a == T || (a == "bool" && T == "int")
theorem kit_of_names {K : PySem.W.Frag} {a T : String} (ha : a ∈ ["NoneType", "bool", "int", "str", "tuple", "list", "dict"]) (hT : T ∈ ["bool", "int", "str", "tuple", "list", "dict"]) : PySem.W.kitOne K (.type a) (.type T) = some (isSub a T) := by
  simp only [List.mem_cons, List.not_mem_nil, or_false] at ha hT
  rcases ha with rfl | rfl | rfl | rfl | rfl | rfl | rfl <;> rcases hT with rfl | rfl | rfl | rfl | rfl | rfl <;> exact kit_ty (by decide +kernel)
theorem tyName_mem {s : Sto} {x : D} {n : String} (h : tyName s x = some n) : n ∈ ["NoneType", "bool", "int", "str", "tuple", "list", "dict"] := by
  unfold tyName at h
  split at h <;> first | (cases h; decide) | cases h | skip
  split at h <;> first | (cases h; decide) | cases h
def isiF (T : String) (s : Sto) (x : D) : Option D := (tyName s x).map fun a => .bl (isSub a T)
section
variable {pos p : Pos} {e : Expr} {te : ED}
theorem pd_isi {X : DX} {T : Str} {n : String} {pT : Pos} (hg : Gl X "isinstance") (hm : X.mg "isinstance" = none) (hgT : Gl X T) (hmT : X.mg T = none) (hv : bootBuiltins T = some (.type n)) (hT : n ∈ ["bool", "int", "str", "tuple", "list", "dict"]) (he : PD X e te)
    (hn : T ≠ "__name__" := by decide) (hd : (T == ("__debug__" : Str)) = false := by decide)
    (h1 : starEach [e, .Name T pT] X.env = (false, eval e X.env) :: starEach [.Name T pT] X.env := by rfl) (h2 : starEach [.Name T pT] X.env = (false, eval (.Name T pT) X.env) :: starEach [] X.env := by rfl) (hpl : (backTo pos (starEach [.Name T pT] X.env)).any (·.1) = false := by rfl) :
    PD X (.Call (.Name "isinstance" p) [e, .Name T pT] [] pos) (dUn (isiF n) te) := by
  have hty : PE X (.Name T pT) (tC (.ty n)) := pe_bltn hgT hmT hv (show RelV (.ty n) (Value.type n) from rfl) hn hd
  refine ⟨pe_imp (pe_callB call_isi hg hm (show bootBuiltins "isinstance" = some (.builtin "isinstance") by decide +kernel) (pa_cons he.pe (pa_cons hty pa_nil h2) h1) (he := h1) (hpl := hpl)) fun σ H Q ⟨env, s, A, B, w, h⟩ => ?_, mono_un he.mono⟩
  refine rdE_go he.mono w h fun x s1 v H1 A1 q w1 e1 dv => ?_
  obtain ⟨z, ez, q⟩ := q
  unfold isiF at ez
  cases ht : tyName s1 x with
  | none => rw [ht] at ez; cases ez
  | some a =>
    rw [ht] at ez
    cases ez
    exact ⟨v, .ty n, .type a, .type n, isSub a n, rfl, .ty _, tyx_of w1.rs dv ht, kit_of_names (tyName_mem ht) hT, q _ _ _ w1.rs e1 (.bl _)⟩
def CallX (X : Cx) (F : Value) (f : Sto → List D → Option D) : Prop := ∃ r, CallR X F r ∧ ∀ (xs : List D) (s : Sto) (vs : List V) (H : Hp) (A B : List Addr) (Q : VK) (z : D), RepS X.K B H A s → DatL X.K (Fz B H A s) A xs vs → f s xs = some z → PostE X.K B H A s Q z s → r vs H Q
def dCB (f : Sto → List D → Option D) (t : AD) : ED := fun env s Q => t env s fun xs s1 => ∃ z, f s1 xs = some z ∧ Q z s1
theorem mono_CB {f : Sto → List D → Option D} {t : AD} (m : Mono t) : Mono (dCB f t) := fun _ _ _ _ g h => m _ _ _ _ (fun _ _ ⟨z, e, q⟩ => ⟨z, e, g _ _ q⟩) h
theorem cb_rd {X : DX} {F : Value} {f : Sto → List D → Option D} {t : AD} {r : List V → Hp → VK → Prop} (mt : Mono t) (l : ∀ (xs : List D) (s : Sto) (vs : List V) (H : Hp) (A B : List Addr) (Q : VK) (z : D), RepS X.K B H A s → DatL X.K (Fz B H A s) A xs vs → f s xs = some z → PostE X.K B H A s Q z s → r vs H Q) (σ : L2.St) (H : Hp) (Q : VK) (h : rdE X.kk (dCB f t) σ H Q) : tCB r (rdA X.kk t) σ H Q := by
  obtain ⟨env, s, A, B, w, h⟩ := h
  exact rdA_go mt w h fun xs s1 vs H1 A1 ⟨z, ez, q⟩ w1 e1 dv => l xs s1 vs H1 A1 B Q z w1.rs dv ez (PostE.from e1 q)
theorem pd_callB {X : DX} {x : Str} {id : String} {f : Sto → List D → Option D} {es : List Expr} {t : AD} (hc : CallX X (.builtin id) f) (hg : Gl X x) (hm : X.mg x = none) (hv : bootBuiltins x = some (.builtin id)) (ha : PAD X (e :: es) t) (hn : x ≠ "__name__" := by decide) (hdb : (x == ("__debug__" : Str)) = false := by decide)
    (he : starEach (e :: es) X.env = (false, eval e X.env) :: starEach es X.env := by rfl) (hpl : (backTo pos (starEach es X.env)).any (·.1) = false := by rfl) : PD X (.Call (.Name x p) (e :: es) [] pos) (dCB f t) := by
  obtain ⟨r, h1, h2⟩ := hc
  exact ⟨pe_imp (pe_callB h1 hg hm hv ha.pa hn hdb he hpl) (cb_rd (F := .builtin id) ha.mono h2), mono_CB ha.mono⟩
theorem pd_callTy {X : DX} {x : Str} {T : String} {f : Sto → List D → Option D} {es : List Expr} {t : AD} (hc : CallX X (.type T) f) (hg : Gl X x) (hm : X.mg x = none) (hv : bootBuiltins x = some (.type T)) (ha : PAD X (e :: es) t) (hn : x ≠ "__name__" := by decide) (hdb : (x == ("__debug__" : Str)) = false := by decide)
    (he : starEach (e :: es) X.env = (false, eval e X.env) :: starEach es X.env := by rfl) (hpl : (backTo pos (starEach es X.env)).any (·.1) = false := by rfl) : PD X (.Call (.Name x p) (e :: es) [] pos) (dCB f t) := by
  obtain ⟨r, h1, h2⟩ := hc
  exact ⟨pe_imp (pe_callTy h1 hg hm hv ha.pa hn hdb he hpl) (cb_rd (F := .type T) ha.mono h2), mono_CB ha.mono⟩
/-- len -/
def lenF (s : Sto) : List D → Option D
  | [.str z] => some (.int z.length)
  | [.tup xs] => some (.int xs.length)
  | [.dk ks _] => some (.int ks.length)
  | [.dt ks _] => some (.int ks.length)
  | [x] => (seqL s x).map fun xs => .int xs.length
  | _ => none
theorem callx_len {X : Cx} : CallX X (.builtin "len") lenF := by
  refine ⟨_, ((call_len.or call_lenD).or call_len_dT), fun xs s vs H A B Q z R dv e q => ?_⟩
  cases dv with
  | nil => cases e
  | cons d1 d2 =>
    rename_i d ds v vs
    cases d2 with
    | cons _ _ => cases d <;> cases e
    | nil =>
      cases d1 with
      | str y hy => cases e; exact .inl (.inl ⟨_, _, rfl, ⟨hy, rfl⟩, q.here R (.int _)⟩)
      | tup h1 h2 =>
        cases e
        refine .inl (.inl ⟨_, _, rfl, .inr ⟨_, sqT_fz h1, rfl⟩, ?_⟩)
        rw [h2.length]
        exact q.here R (.int _)
      | dk h1 h2 =>
        cases e
        refine .inl (.inr ⟨_, _, rfl, (fz_of h1).1, ?_⟩)
        have := q.here R (.int _)
        simpa using this
      | dt h1 h2 =>
        cases e
        refine .inr ⟨_, _, rfl, (fz_of h1).1, ?_⟩
        have := q.here R (.int _)
        simpa using this
      | non => cases e
      | bl _ => cases e
      | int _ => cases e
      | exc _ _ => cases e
      | lst h1 h2 =>
        cases e
        refine .inl (.inl ⟨_, _, rfl, .inl ⟨_, .of (fz_of h1).1, rfl⟩, ?_⟩)
        rw [h2.length]
        exact q.here R (.int _)
      | frl h1 h2 =>
        cases e
        refine .inl (.inl ⟨_, _, rfl, .inl ⟨_, sqL_fz h1.seq, rfl⟩, ?_⟩)
        rw [h2.length]
        exact q.here R (.int _)
      | @ref l a hA =>
        have e' : (seqL s (.ref l)).map (fun xs => D.int xs.length) = some z := e
        cases hs : seqL s (.ref l) with
        | none => rw [hs] at e'; cases e'
        | some ds =>
          rw [hs] at e'
          cases e'
          obtain ⟨a', vs, ea, h1, h2⟩ := of_seqL R (.ref hA) hs
          cases ea
          refine .inl (.inl ⟨_, _, rfl, .inl ⟨_, h1, rfl⟩, ?_⟩)
          rw [h2.length]
          exact q.here R (.int _)
/-- all -/
def blsOf : List D → Option (List Bool)
  | [] => some []
  | .bl b :: r => (blsOf r).map (b :: ·)
  | _ => none
theorem blsOf_eq : ∀ {ds : List D} {bs : List Bool}, blsOf ds = some bs → ds = bs.map .bl
  | [], _, h => by cases h; rfl
  | .bl b :: r, _, h => by
    unfold blsOf at h
    cases hr : blsOf r with
    | none => rw [hr] at h; cases h
    | some l => rw [hr] at h; cases h; rw [blsOf_eq hr]; rfl
  | .non :: _, _, h => by cases h
  | .int _ :: _, _, h => by cases h
  | .str _ :: _, _, h => by cases h
  | .tup _ :: _, _, h => by cases h
  | .lst _ :: _, _, h => by cases h
  | .frl _ :: _, _, h => by cases h
  | .dk _ _ :: _, _, h => by cases h
  | .dt _ _ :: _, _, h => by cases h
  | .ref _ :: _, _, h => by cases h
  | .exc _ _ _ :: _, _, h => by cases h
@[simp] theorem blsOf_map (bs : List Bool) : blsOf (bs.map D.bl) = some bs := by
  induction bs with
  | nil => rfl
  | cons b bs ih => simp [blsOf, ih]
def allF (s : Sto) : List D → Option D
  | [x] => match seqL s x with
    | some ds => (blsOf ds).map fun bs => .bl (bs.all id)
    | none => none
  | _ => none
theorem one_of {K : PySem.W.Frag} {F : Hp} {A : List Addr} {x : D} {vs : List V} (h : DatL K F A [x] vs) : ∃ v, vs = [v] ∧ Dat K F A x v := by
  cases h with
  | cons h1 h2 => cases h2; exact ⟨_, rfl, h1⟩
theorem two_of {K : PySem.W.Frag} {F : Hp} {A : List Addr} {x y : D} {vs : List V} (h : DatL K F A [x, y] vs) : ∃ v w, vs = [v, w] ∧ Dat K F A x v ∧ Dat K F A y w := by
  cases h with
  | cons h1 h2 =>
    obtain ⟨w, rfl, h3⟩ := one_of h2
    exact ⟨_, _, rfl, h1, h3⟩
theorem callx_all {X : Cx} (hc : X.calm = true) : CallX X (.builtin "all") allF := by
  refine ⟨_, cr_all hc, fun xs s vs H A B Q z R dv e q => ?_⟩
  unfold allF at e
  split at e
  · rename_i x
    obtain ⟨v, rfl, d⟩ := one_of dv
    split at e
    · rename_i ds hs
      cases hb : blsOf ds with
      | none => rw [hb] at e; cases e
      | some bs =>
        rw [hb] at e
        cases e
        obtain ⟨a, vs, rfl, h1, h2⟩ := of_seqL R d hs
        rw [blsOf_eq hb] at h2
        exact ⟨a, bs, rfl, by rw [← h2.bls]; exact h1, q.here R (.bl _)⟩
    · cases e
  · cases e
/-- abs, int, min, max, sum -/
def absF (_ : Sto) : List D → Option D
  | [.int i] => some (.int (if i < 0 then -i else i))
  | _ => none
def intF (_ : Sto) : List D → Option D
  | [.int i] => some (.int i)
  | [.bl k] => some (.int (b2n k))
  | _ => none
theorem callx_int {X : Cx} : CallX X (.type "int") intF := by
  refine ⟨_, call_int1, fun xs s vs H A B Q z R dv e q => ?_⟩
  unfold intF at e
  split at e
  · cases e
    obtain ⟨v, rfl, d⟩ := one_of dv
    cases d
    exact .inl ⟨_, rfl, q.here R (.int _)⟩
  · cases e
    obtain ⟨v, rfl, d⟩ := one_of dv
    cases d
    exact .inr ⟨_, rfl, q.here R (.int _)⟩
  · cases e
def min2F (_ : Sto) : List D → Option D
  | [.int i, .int j] => some (.int (if j < i then j else i))
  | _ => none
def max2F (_ : Sto) : List D → Option D
  | [.int i, .int j] => some (.int (if j > i then j else i))
  | _ => none
theorem callx_min2 {X : Cx} (hc : X.calm = true) : CallX X (.builtin "min") min2F := by
  refine ⟨_, call_min2 hc, fun xs s vs H A B Q z R dv e q => ?_⟩
  unfold min2F at e
  split at e
  · cases e
    obtain ⟨v, w, rfl, d, d'⟩ := two_of dv
    cases d
    cases d'
    exact ⟨_, _, rfl, q.here R (.int _)⟩
  · cases e
theorem callx_max2 {X : Cx} (hc : X.calm = true) : CallX X (.builtin "max") max2F := by
  refine ⟨_, call_max2 hc, fun xs s vs H A B Q z R dv e q => ?_⟩
  unfold max2F at e
  split at e
  · cases e
    obtain ⟨v, w, rfl, d, d'⟩ := two_of dv
    cases d
    cases d'
    exact ⟨_, _, rfl, q.here R (.int _)⟩
  · cases e
def intsOf : List D → Option (List Int)
  | [] => some []
  | .int b :: r => (intsOf r).map (b :: ·)
  | _ => none
theorem intsOf_eq : ∀ {ds : List D} {bs : List Int}, intsOf ds = some bs → ds = bs.map .int
  | [], _, h => by cases h; rfl
  | .int b :: r, _, h => by
    unfold intsOf at h
    cases hr : intsOf r with
    | none => rw [hr] at h; cases h
    | some l => rw [hr] at h; cases h; rw [intsOf_eq hr]; rfl
  | .non :: _, _, h => by cases h
  | .bl _ :: _, _, h => by cases h
  | .str _ :: _, _, h => by cases h
  | .tup _ :: _, _, h => by cases h
  | .lst _ :: _, _, h => by cases h
  | .frl _ :: _, _, h => by cases h
  | .dk _ _ :: _, _, h => by cases h
  | .dt _ _ :: _, _, h => by cases h
  | .ref _ :: _, _, h => by cases h
  | .exc _ _ _ :: _, _, h => by cases h
@[simp] theorem intsOf_map (bs : List Int) : intsOf (bs.map D.int) = some bs := by
  induction bs with
  | nil => rfl
  | cons b bs ih => simp [intsOf, ih]
def sumF (s : Sto) : List D → Option D
  | [x] => match seqL s x with
    | some ds => (intsOf ds).map fun bs => .int bs.sum
    | none => none
  | _ => none
theorem callx_sum {X : Cx} (hc : X.calm = true) : CallX X (.builtin "sum") sumF := by
  refine ⟨_, cr_sum hc, fun xs s vs H A B Q z R dv e q => ?_⟩
  unfold sumF at e
  split at e
  · rename_i x
    obtain ⟨v, rfl, d⟩ := one_of dv
    split at e
    · rename_i ds hs
      cases hb : intsOf ds with
      | none => rw [hb] at e; cases e
      | some bs =>
        rw [hb] at e
        cases e
        obtain ⟨a, vs, rfl, h1, h2⟩ := of_seqL R d hs
        rw [intsOf_eq hb] at h2
        exact ⟨a, bs, rfl, by rw [← h2.ints]; exact h1, q.here R (.int _)⟩
    · cases e
  · cases e
/-- list(x), tuple(x) of a list or a tuple -/
def seqA (s : Sto) (x : D) : Option (List D) := match x with
  | .tup xs => some xs
  | x => seqL s x
theorem of_seqA {K : PySem.W.Frag} {B : List Addr} {H : Hp} {A : List Addr} {s : Sto} {x : D} {v : V} {ds : List D} (R : RepS K B H A s) (dv : Dat K (Fz B H A s) A x v) (h : seqA s x = some ds) : ∃ a vs, v = .ref a ∧ (SqL K H a vs ∨ SqT K H a vs) ∧ DatL K (Fz B H A s) A ds vs := by
  by_cases e : ∃ xs, x = .tup xs
  · obtain ⟨xs, rfl⟩ := e
    obtain ⟨a, vs, e1, e2, e3⟩ := of_seqT dv h
    exact ⟨a, vs, e1, .inr e2, e3⟩
  · have h' : seqL s x = some ds := by
      cases x with
      | tup xs => exact absurd ⟨xs, rfl⟩ e
      | _ => exact h
    obtain ⟨a, vs, e1, e2, e3⟩ := of_seqL R dv h'
    exact ⟨a, vs, e1, .inl e2, e3⟩
def listF (s : Sto) : List D → Option D
  | [x] => (seqA s x).map .lst
  | _ => none
theorem callx_list {X : Cx} : CallX X (.type "list") listF := by
  refine ⟨_, call_list_of, fun xs s vs H A B Q z R dv e q => ?_⟩
  unfold listF at e
  split at e
  · rename_i x
    obtain ⟨v, rfl, d⟩ := one_of dv
    cases hs : seqA s x with
    | none => rw [hs] at e; cases e
    | some ds =>
      rw [hs] at e
      cases e
      obtain ⟨a, vs, rfl, h1, h2⟩ := of_seqA R d hs
      exact ⟨a, vs, rfl, h1, fun l hl => q.new R hl fun F e f => .lst f (h2.mono e fun _ _ h => h)⟩
  · cases e
def tupleF (s : Sto) : List D → Option D
  | [x] => (seqA s x).map .tup
  | _ => none
theorem callx_tuple {X : Cx} : CallX X (.type "tuple") tupleF := by
  refine ⟨_, call_tuple_of, fun xs s vs H A B Q z R dv e q => ?_⟩
  unfold tupleF at e
  split at e
  · rename_i x
    obtain ⟨v, rfl, d⟩ := one_of dv
    cases hs : seqA s x with
    | none => rw [hs] at e; cases e
    | some ds =>
      rw [hs] at e
      cases e
      by_cases et : ∃ xs, x = .tup xs
      · obtain ⟨xs, rfl⟩ := et
        cases hs
        cases d with
        | tup h1 h2 => exact ⟨_, _, rfl, .inr ⟨sqT_fz h1, q.here R (.tup h1 h2)⟩⟩
      · have h' : seqL s x = some ds := by
          cases x with
          | tup xs => exact absurd ⟨xs, rfl⟩ et
          | _ => exact hs
        obtain ⟨a, vs, rfl, h1, h2⟩ := of_seqL R d h'
        exact ⟨a, vs, rfl, .inl ⟨h1, fun l hl => q.new R hl fun F e f => .tup (.of f) (h2.mono e fun _ _ h => h)⟩⟩
  · cases e
def idxF (s : Sto) (x i : D) : Option D :=
  match x, i with
  | .tup xs, .int i => atI xs i
  | .str z, .int i => (atI z.cps.toList i).map fun c => .str ⟨#[c]⟩
  | x, .int i => match seqL s x with
    | some xs => atI xs i
    | none => none
  | _, _ => none
theorem DatL.at {K : PySem.W.Frag} {F : Hp} {A : List Addr} {ds : List D} {vs : List V} {i : Int} {d : D} (h : DatL K F A ds vs) (e : atI ds i = some d) : ∃ v, atI vs i = some v ∧ Dat K F A d v := by
  unfold atI at e ⊢
  rw [h.length]
  cases hi : ixN ds.length i with
  | none => rw [hi] at e; cases e
  | some j =>
    rw [hi] at e
    exact h.get e
theorem pd_ix {X : DX} {a b : Expr} {ta tb : ED} (ha : PD X a ta) (hb : PD X b tb) (hs : PlainIx b) : PD X (.Subscript a b pos) (dBin (oF idxF) ta tb) := by
  refine ⟨pe_imp (pe_ix ix_seq ha.pe hb.pe hs) (bin_rd ha.mono hb.mono mono_oF fun x y s v w H A B Q R dv dw h => ?_), mono_bin mono_oF ha.mono hb.mono⟩
  obtain ⟨z, e, q⟩ := h
  unfold idxF at e
  split at e
  · cases dw
    cases dv with
    | tup h1 h2 =>
      obtain ⟨u, hu, du⟩ := h2.at e
      exact .inr (.inl ⟨_, _, _, u, rfl, rfl, sqT_fz h1, hu, q.here R du⟩)
  · cases dw
    cases dv with
    | str _ hz =>
      rename_i z' i
      cases hc : atI z'.cps.toList i with
      | none => rw [hc] at e; cases e
      | some c =>
        rw [hc] at e
        cases e
        exact .inr (.inr ⟨_, _, c, rfl, rfl, hz, hc, q.here R (.str _ (by show 1 ≤ sizeLine; decide))⟩)
  · cases dw
    split at e
    · rename_i xs hs
      obtain ⟨a, vs, rfl, h1, h2⟩ := of_seqL R dv hs
      obtain ⟨u, hu, du⟩ := h2.at e
      exact .inl ⟨_, _, _, u, rfl, rfl, h1, hu, q.here R du⟩
    · cases e
  · cases e
abbrev OD := En → Sto → (Option Int → Sto → Prop) → Prop
def rdO (K : KK) (t : OD) : TO := fun σ H Q => ∃ (env : En) (s : Sto) (A B : List Addr), Wo K B H A s env σ ∧ t env s fun o s' => ∀ (H' : Hp) (A' : List Addr), RepS K B H' A' s' → Ext B H A s H' A' s' → Q o H'
structure POD (X : DX) (e : Option Expr) (t : OD) : Prop where
  po : PO X e (rdO X.kk t)
  mono : Mono t
theorem po_imp {X : Cx} {e : Option Expr} {t t' : TO} (h : PO X e t) (f : ∀ σ H Q, t' σ H Q → t σ H Q) : PO X e t' := ⟨fun pins s σ H Q I q => h.run pins s σ H Q I (f σ H Q q)⟩
def dNoP : OD := fun _ s Q => Q none s
def dP (t : ED) : OD := fun env s Q => t env s fun x s1 => ∃ i, x = .int i ∧ Q (some i) s1
theorem pod_none {X : DX} : POD X none dNoP := ⟨po_imp po_none fun σ H Q ⟨env, s, A, B, w, h⟩ => h _ _ w.rs .refl, fun _ _ _ _ f h => f _ _ h⟩
theorem pod_some {X : DX} (he : PD X e te) : POD X (some e) (dP te) := ⟨po_imp (po_some he.pe) fun σ H Q ⟨env, s, A, B, w, h⟩ => rdE_go he.mono w h fun x s1 v H1 A1 ⟨i, ex, q⟩ w1 e1 dv => by
  subst ex
  cases dv
  exact ⟨i, rfl, q _ _ w1.rs e1⟩, fun _ _ _ _ f h => he.mono _ _ _ _ (fun _ _ ⟨i, e, q⟩ => ⟨i, e, f _ _ q⟩) h⟩
def cutD {α : Type} (xs : List α) (lo hi : Option Int) : List α := (xs.drop (HT.sIx xs.length 0 lo)).take (HT.sIx xs.length xs.length hi - HT.sIx xs.length 0 lo)
def sliceF (s : Sto) (x : D) (lo hi : Option Int) : Option D :=
  match x with
  | .tup xs => some (.tup (cutD xs lo hi))
  | .str z => some (.str ⟨(cutD z.cps.toList lo hi).toArray⟩)
  | x => (seqL s x).map fun xs => .lst (cutD xs lo hi)
def dSl (te : ED) (tl th : OD) : ED := fun env s Q => te env s fun x s1 => tl env s1 fun lo s2 => th env s2 fun hi s3 => ∃ z, sliceF s3 x lo hi = some z ∧ Q z s3
theorem mono_sl {tl th : OD} (me : Mono te) (ml : Mono tl) (mh : Mono th) : Mono (dSl te tl th) := fun _ _ _ _ f h => me _ _ _ _ (fun _ _ h => ml _ _ _ _ (fun _ _ h => mh _ _ _ _ (fun _ _ ⟨z, e, q⟩ => ⟨z, e, f _ _ q⟩) h) h) h
theorem DatL.cut {K : PySem.W.Frag} {F : Hp} {A : List Addr} {ds : List D} {vs : List V} (lo hi : Option Int) (h : DatL K F A ds vs) : DatL K F A (cutD ds lo hi) (cutV vs lo hi) := by
  unfold cutD cutV
  rw [h.length]
  exact (h.drop _).take _
theorem cut_whole {α : Type} {xs : List α} {lo hi : Option Int} (h : HT.sIx xs.length 0 lo = 0 ∧ HT.sIx xs.length xs.length hi = xs.length) : cutD xs lo hi = xs := by
  unfold cutD
  rw [h.1, h.2]
  simp
theorem pd_slice {X : DX} {lo hi : Option Expr} {tl th : OD} {p2 : Pos} (he : PD X e te) (hl : POD X lo tl) (hh : POD X hi th) : PD X (.Subscript e (.Slice lo hi none p2) pos) (dSl te tl th) := by
  refine ⟨pe_imp (pe_slice ((sl_list.or sl_tupA).or sl_str) he.pe hl.po hh.po) fun σ H Q ⟨env, s, A, B, w, h⟩ => ?_, mono_sl he.mono hl.mono hh.mono⟩
  refine rdE_go he.mono w h fun x s1 v H1 A1 q1 w1 e1 dv => ?_
  refine ⟨env, s1, A1, B, w1, hl.mono _ _ _ _ (fun l s2 q2 H2 A2 r2 e2 => ?_) q1⟩
  have w2 := w1.to r2 e2
  refine ⟨env, s2, A2, B, w2, hh.mono _ _ _ _ (fun u s3 q3 H3 A3 r3 e3 => ?_) q2⟩
  have d3 := (dv.ext e2).ext e3
  obtain ⟨z, ez, q⟩ := q3
  have q := PostE.from ((e1.trans e2).trans e3) q
  unfold sliceF at ez
  split at ez
  · cases ez
    cases d3 with
    | tup h1 h2 =>
      refine .inl (.inr ⟨_, _, rfl, sqT_fz h1, fun hw => ?_, fun hw p hp => q.new r3 hp fun F e f => .tup (.of f) ((h2.cut _ _).mono e fun _ _ h => h)⟩)
      rw [h2.length] at hw
      rw [cut_whole hw] at q
      exact q.here r3 (.tup h1 h2)
  · cases ez
    cases d3 with
    | str _ hz =>
      refine .inr ⟨_, rfl, hz, q.here r3 (.str _ ?_)⟩
      show (cutD _ l u).toArray.size ≤ sizeLine
      rw [List.size_toArray]
      unfold cutD
      have : ∀ (z : Str), z.cps.toList.length = z.length := fun z => by simp [Str.length]
      simp only [List.length_take, List.length_drop]
      have hz' : ∀ (z : Str), z.length ≤ sizeLine → z.cps.toList.length ≤ sizeLine := fun z h => by rw [this]; exact h
      have := hz' _ hz
      omega
  · cases hs : seqL s3 x with
    | none => rw [hs] at ez; cases ez
    | some xs =>
      rw [hs] at ez
      cases ez
      obtain ⟨a, vs, rfl, h1, h2⟩ := of_seqL r3 d3 hs
      exact .inl (.inl ⟨a, vs, rfl, h1, fun p hp => q.new r3 hp fun F e f => .lst f ((h2.cut _ _).mono e fun _ _ h => h)⟩)
end
end Dl
set_option Elab.async false
set_option linter.all false
set_option autoImplicit false
set_option maxRecDepth 100000
set_option maxHeartbeats 4000000
namespace Dl
open PySem PySem.Spec PyProof.Rows L2
section
variable {pos p : Pos} {e : Expr} {te : ED}
def MtLX (X : Cx) (id : String) (f : List D → List D → Option (D × List D)) : Prop := ∃ r, MtR X id r ∧ ∀ (F : Hp) (A : List Addr) (H : Hp) (a : Addr) (vs : List V) (ds : List D) (xs : List D) (ws : List V) (z : D) (ds' : List D) (Q : VK),
  H a = some (.lst vs) → DatL X.K F A ds vs → DatL X.K F A xs ws → f ds xs = some (z, ds') → (∀ v vs', Dat X.K F A z v → DatL X.K F A ds' vs' → Q v (upd H a (.lst vs'))) → r (.ref a) ws H Q
def dMt (f : List D → List D → Option (D × List D)) (to : ED) (t : AD) : ED := fun env s Q => to env s fun o s1 => ∃ l ds0, o = .ref l ∧ s1[l]? = some (some (.lst ds0)) ∧ t env s1 fun xs s2 => ∃ ds z ds', s2[l]? = some (some (.lst ds)) ∧ f ds xs = some (z, ds') ∧ Q z (s2.set l (some (.lst ds')))
theorem mono_mt {f : List D → List D → Option (D × List D)} {to : ED} {t : AD} (mo : Mono to) (m : Mono t) : Mono (dMt f to t) := fun _ _ _ _ g h => mo _ _ _ _ (fun _ _ ⟨l, ds0, e1, e2, q⟩ => ⟨l, ds0, e1, e2, m _ _ _ _ (fun _ _ ⟨ds, z, ds', h1, h2, q⟩ => ⟨ds, z, ds', h1, h2, g _ _ q⟩) q⟩) h
theorem mt_core {X : Cx} {f : List D → List D → Option (D × List D)} {r : V → List V → Hp → VK → Prop} (hr : ∀ (F : Hp) (A : List Addr) (H : Hp) (a : Addr) (vs : List V) (ds : List D) (xs : List D) (ws : List V) (z : D) (ds' : List D) (Q : VK),
    H a = some (.lst vs) → DatL X.K F A ds vs → DatL X.K F A xs ws → f ds xs = some (z, ds') → (∀ v vs', Dat X.K F A z v → DatL X.K F A ds' vs' → Q v (upd H a (.lst vs'))) → r (.ref a) ws H Q)
    {B : List Addr} {H : Hp} {A : List Addr} {s : Sto} {l : Nat} {a : Addr} {ds : List D} {xs : List D} {ws : List V} {z : D} {ds' : List D} {Q : VK} (R : RepS X.K B H A s) (hA : A[l]? = some a) (hs : s[l]? = some (some (.lst ds))) (dw : DatL X.K (Fz B H A s) A xs ws) (hf : f ds xs = some (z, ds'))
    (q : PostE X.K B H A s Q z (s.set l (some (.lst ds')))) : r (.ref a) ws H Q := by
  obtain ⟨a', ha', vs, hv, hd⟩ := R.ob l _ hs
  rw [hA] at ha'; cases ha'
  refine hr _ _ H a vs ds xs ws z ds' Q hv hd dw hf fun v vs' dz dd => ?_
  obtain ⟨r2, e2⟩ := R.write (o := .lst vs') (mo' := .lst ds') hs hA ⟨vs', upd_same, dd⟩
  exact q v _ _ r2 e2 (dz.ext e2)
theorem pd_mt {X : DX} {f : List D → List D → Option (D × List D)} {id : String} {name : Str} {o : Expr} {es : List Expr} {to : ED} {t : AD} {apos cpos : Pos} (slot : Slot "list" name id) (hty : typeOf (.builtin id) = pure (.type "method_descriptor")) (hm : MtLX X id f) (ho : PD X o to) (ha : PAD X (e :: es) t)
    (hbase : attributeBase o name X.env (eval o X.env) = eval o X.env := by rfl)
    (hfew : ((backTo cpos (starEach (e :: es) X.env)).all (fun x => !x.1) && (backToKw cpos (keywordEach [] X.env)).all (fun x => x.1.isSome)
      && decide ((e :: es).length + ([] : List Keyword).length + (if ([] : List Keyword).isEmpty then 0 else 1) < 30)) = true := by rfl)
    (hline : (apos.endLine == cpos.line) = true := by rfl) (hs : starEach (e :: es) X.env = (false, eval e X.env) :: starEach es X.env := by rfl) (hplain : (backTo cpos (starEach es X.env)).any (·.1) = false := by rfl) :
    PD X (.Call (.Attribute o name apos) (e :: es) [] cpos) (dMt f to t) := by
  obtain ⟨r, h1, h2⟩ := hm
  refine ⟨pe_imp (pe_bm PySem.F.plainAttrs_list slot hty h1 ho.pe ha.pa hbase hfew hline hs hplain) fun σ H Q ⟨env, s, A, B, w, h⟩ => ?_, mono_mt ho.mono ha.mono⟩
  refine rdE_go ho.mono w h fun x s1 v H1 A1 q1 w1 e1 dv => ?_
  obtain ⟨l, ds0, rfl, hl, q1⟩ := q1
  cases dv with
  | ref hA =>
    obtain ⟨a', ha', vs0, hv0, _⟩ := w1.rs.ob l _ hl
    rw [hA] at ha'; cases ha'
    refine ⟨.inl ⟨rfl, _, .of hv0⟩, rdA_go ha.mono w1 q1 fun xs s2 ws H2 A2 q2 w2 e2 dw => ?_⟩
    obtain ⟨ds, z, ds', hs2, hf, q⟩ := q2
    exact mt_core h2 w2.rs (e2.pre _ _ hA) hs2 dw hf (PostE.from (e1.trans e2) q)
def fAppend (ds : List D) : List D → Option (D × List D)
  | [y] => if ds.length < sizeLine then some (.non, ds ++ [y]) else none
  | _ => none
theorem mtx_append {X : Cx} : MtLX X "list.append" fAppend := by
  refine ⟨_, mt_append, fun F A H a vs ds xs ws z ds' Q hv hd hw hf q => ?_⟩
  unfold fAppend at hf
  split at hf
  · split at hf
    · cases hf
      rename_i hz
      obtain ⟨v, rfl, d⟩ := one_of hw
      exact ⟨a, vs, v, rfl, rfl, hv, by rw [hd.length]; exact hz, q _ _ .non (hd.append (.cons d .nil))⟩
    · cases hf
  · cases hf
def strsOf : List D → Option (List Str)
  | [] => some []
  | .str b :: r => (strsOf r).map (b :: ·)
  | _ => none
theorem strsOf_eq : ∀ {ds : List D} {bs : List Str}, strsOf ds = some bs → ds = bs.map .str
  | [], _, h => by cases h; rfl
  | .str b :: r, _, h => by
    unfold strsOf at h
    cases hr : strsOf r with
    | none => rw [hr] at h; cases h
    | some l => rw [hr] at h; cases h; rw [strsOf_eq hr]; rfl
  | .non :: _, _, h => by cases h
  | .bl _ :: _, _, h => by cases h
  | .int _ :: _, _, h => by cases h
  | .tup _ :: _, _, h => by cases h
  | .lst _ :: _, _, h => by cases h
  | .frl _ :: _, _, h => by cases h
  | .dk _ _ :: _, _, h => by cases h
  | .dt _ _ :: _, _, h => by cases h
  | .ref _ :: _, _, h => by cases h
  | .exc _ _ _ :: _, _, h => by cases h
@[simp] theorem strsOf_map (bs : List Str) : strsOf (bs.map D.str) = some bs := by
  induction bs with
  | nil => rfl
  | cons b bs ih => simp [strsOf, ih]
/-- sep.join(a list or a tuple of texts) -/
def dJoin (to te : ED) : ED := fun env s Q => to env s fun o s1 => ∃ a, o = .str a ∧ te env s1 fun x s2 => ∃ ds ys, seqA s2 x = some ds ∧ strsOf ds = some ys ∧ (ys.map (·.length)).sum + ys.length * a.length ≤ 16777216 ∧ Q (.str (Txt.join a ys)) s2
theorem mono_join {to : ED} (mo : Mono to) (me : Mono te) : Mono (dJoin to te) := fun _ _ _ _ f h => mo _ _ _ _ (fun _ _ ⟨a, e, q⟩ => ⟨a, e, me _ _ _ _ (fun _ _ ⟨ds, ys, h1, h2, h3, q⟩ => ⟨ds, ys, h1, h2, h3, f _ _ q⟩) q⟩) h
theorem join_le (sep : Str) (ys : List Str) (h : (ys.map (·.length)).sum + ys.length * sep.length ≤ 16777216) : (Txt.join sep ys).length ≤ sizeLine := by
  have h1 := PySem.StrLaws.join_length_le sep ys
  have h2 : sizeLine = 16777216 := sizeLine_eq
  have h3 : Txt.join sep ys = Str.join sep ys := by
    exact PySem.StrLaws.glued_eq_join _ _
  rw [h3]; omega
theorem pd_join {X : DX} {o : Expr} {to : ED} {apos : Pos} (ho : PD X o to) (he : PD X e te) (hs : starEach [e] X.env = [(false, eval e X.env)] := by rfl) (hbase : attributeBase o "join" X.env (eval o X.env) = eval o X.env := by rfl) (hline : (apos.endLine == pos.line) = true := by rfl) :
    PD X (.Call (.Attribute o "join" apos) [e] [] pos) (dJoin to te) := by
  refine ⟨pe_imp (pe_join ho.pe he.pe hs hbase hline) fun σ H Q ⟨env, s, A, B, w, h⟩ => ?_, mono_join ho.mono he.mono⟩
  refine rdE_go ho.mono w h fun x s1 v H1 A1 q1 w1 e1 dv => ?_
  obtain ⟨a, rfl, q1⟩ := q1
  cases dv
  refine ⟨⟨a, rfl⟩, rdE_go he.mono w1 q1 fun y s2 u H2 A2 q2 w2 e2 du => ?_⟩
  obtain ⟨ds, ys, hd, hy, hz, q⟩ := q2
  obtain ⟨b, vs, rfl, h1, h2⟩ := of_seqA w2.rs du hd
  rw [strsOf_eq hy] at h2
  rw [h2.strs] at h1
  exact ⟨a, b, ys, rfl, rfl, h1, hz, q _ _ _ w2.rs (e1.trans e2) (.str _ (join_le a ys hz))⟩
theorem int___gt___bool_int_0 (a : Bool) (b : Int) (u : Tok) : Gives (Builtin.«int.__gt__» ⟨[.bool a, .int b u], []⟩) (.val (Value.bool ((fun x1 x2 => decide (x1 > x2)) (if a = true then (1 : Int) else 0) b))) :=
  .of_wp fun M A E s Q h => by obtain ⟨hp, g, d, tk, os⟩ := s; wp_walk; exact ⟨_, rfl, h⟩
theorem gt_bool_int {P : Program} {w : World} {A : Around} {E : Value → Shared → Prop} {s : Shared} {Q : Value → Shared → Prop} {a : Bool} {b : Int} {u : Tok} (h : Q (.bool (decide (b < b2n a))) s) : wpAny (model P w) A (compareOp .Gt (.bool a) (.int b u)) Q E s := by
  show wpAny (model P w) A (richCompare .Gt (.bool a) (.int b u)) Q E s
  exact SeqAt.rc_left_or rfl (typeIs_int s b u) (by decide) F.sub_int_bool F.slot_bool_gt
    (call_gives F.slot_bool_gt rfl F.entry_int_gt (F.args_int_gt_2 _ _) (int___gt___bool_int_0 a b u) ⟨nofun, h⟩) (.inl rfl)
def gtBF (_ : Sto) (x y : D) : Option D :=
  match x, y with
  | .int i, .int j => some (.bl (decide (j < i)))
  | .bl k, .int j => some (.bl (decide (j < b2n k)))
  | _, _ => none
theorem opx_gtB {X : Cx} : OpX X (compareOp .Gt) (oF gtBF) := by
  have h1 : OpX X (compareOp .Gt) (oII fun i j => .bl (decide (j < i))) := opx_ii op_gt fun _ _ _ _ => .bl _
  have h2 : OpX X (compareOp .Gt) (oBI fun i j => .bl (decide (j < i))) := opx_bi (g := fun i j => .bl (decide (j < i))) (opr_bi (g := fun i j => .bl (decide (j < i))) fun k j u pins s σ H Q I q => gt_bool_int ⟨.bl _, H, I, rfl, q⟩) fun _ _ _ _ => .bl _
  refine (h1.or h2).imp ?_
  rintro x y s Q ⟨z, e, q⟩
  unfold gtBF at e
  split at e
  · cases e; exact .inl ⟨_, _, rfl, rfl, q⟩
  · cases e; exact .inr ⟨_, _, rfl, rfl, q⟩
  · cases e
end
def envD (N : List Str) (ds : List D) : En := ds.map some ++ List.replicate (N.length - ds.length) none
theorem repE_start {K : PySem.W.Frag} {F : Hp} {A : List Addr} {N : List Str} {ds : List D} {vs : List V} (h : DatL K F A ds vs) : RepE K F A (envD N ds) (L2.start N vs) := by
  refine ⟨by unfold envD L2.start; simp [h.length], fun i d e => ?_⟩
  unfold envD at e
  by_cases hi : i < ds.length
  · rw [List.getElem?_append_left (by simpa using hi), List.getElem?_map] at e
    cases q : ds[i]? with
    | none => rw [q] at e; cases e
    | some d' =>
      rw [q] at e
      cases e
      obtain ⟨v, h1, h2⟩ := h.get q
      refine ⟨v, ?_, h2⟩
      unfold L2.start
      rw [List.getElem?_append_left (by rw [List.length_map, h.length]; exact hi), List.getElem?_map, h1]
      rfl
  · rw [List.getElem?_append_right (by simpa using hi), List.getElem?_replicate] at e
    split at e <;> cases e
/-- nothing but what is returned is wanted -/
def endsOf (Q : D → Sto → Prop) : EndsD := ⟨fun _ s => Q .non s, Q, fun _ _ => False, fun _ _ => False⟩
/-- a def's body, by its rules: what the frame asks -/
theorem fn_ofG {CX : CXT} {P : Program} {w : World} {K : PySem.W.Frag} {mg : Str → Option Value} {base : Heap} {k : Nat} {f : Addr} {name qual : Str} {params : Arguments} {body : List Stmt} {scope : Scope} {dV kV doc pm cdv ct oc : Value} {an od : Option Addr} {osl : Array (Option Value)} {N ps : List Str} {sp : SpD}
    (look : K.lookup f = some ⟨oc, od, .func (PySem.W.fnOf name qual params body scope dV kV doc pm an cdv ct), osl⟩) (code : PySem.W.codeIn K cdv qual = true) (S : FnScope N ps scope) (len : ∀ ds s Q E, sp ds s Q E → ds.length = ps.length) (mono : MonoSp sp)
    (hbody : ∀ (A : Around) (outer : List PySem.Env) (s : Shared) (H : Hp) (vs : List V) (Q : VK) (E : XK), RoomG k (A.deeper (envOfC qual scope s.heap.objs.size f cdv)) → liftSp K mg sp vs H Q E →
      ∃ t : TS, PSs (cxOf CX P w K mg base N qual scope f cdv A outer s H E) body t ∧ t { nx := fun _ H2 => Q .non H2, rt := Q } (L2.start N vs) H) : FnD P w K mg base CX (k + 1) f (PySem.W.fnOf name qual params body scope dV kV doc pm an cdv ct) ps sp := by
  refine ⟨len, ?_, mono⟩
  intro A outer s H args us vs Q E room e0 bind rel want
  have nl := liftSp.len len want
  have keep : ∀ b o, base.get? b = some o → s.heap.get? b = some o := fun b o z => (e0.bs b o z).1
  have KX : K.In s.heap := e0.mod.kin.keeps keep
  have lim := e0.mod.nolimit.keeps keep
  have kinds : ∀ y ∈ ps.zip us, scope.names.lookup y.1 = some .local ∨ (scope.names.lookup y.1 = some .cell ∧ ((cellsFrom (s.heap.objs.size + 1) scope.names []).lookup y.1).isSome = true) := by
    rintro ⟨n, v⟩ hy
    exact (S.par n (List.of_mem_zip hy).1).imp id fun q => ⟨q, PySem.W.cellsFrom_some _ _ _ (.inl q)⟩
  refine codeAny_call_function room.r.depth (KX _ _ look) rfl S.co S.gen rfl (PySem.W.codeRec_of KX code) (bind _ _ _ _ ?_)
  refine wpAny_newFunctionEnv_cells S.kind kinds ?_
  intro env he s1 x
  subst he
  refine ⟨lim.keeps x.toInCall.keep, codeAny_func ?_⟩
  obtain ⟨t, rule, q⟩ := hbody A outer s H vs Q E (room.deeper _) want
  refine wpAny_mono (rule.run [] s1 (L2.start N vs) H _ (inv_start S room.r.hd e0 nl rel x) q) (fun o s2 ho => ?_) fun _ _ ho => ho
  have out : ∀ {σ2 : L2.St} {H2 : Hp} {v : V} {u : Value}, Inv (cxOf CX P w K mg base N qual scope f cdv A outer s H E) [] σ2 H2 s2 → RelV v u → Q v H2 → CE outer P w H s Q u s2 := fun {σ2 H2 v u} J rv q2 => ⟨v, H2, J.os, J.bare, J.base, J.hok, rv, q2⟩
  cases o with
  | ret u => exact let ⟨v, σ2, H2, J, rv, q2⟩ := ho; out J rv q2
  | next => exact let ⟨σ2, H2, J, q2⟩ := ho; out (v := V.non) (u := Value.none) J rfl q2
  | brk => exact let ⟨_, _, _, q2⟩ := ho; q2.elim
  | cont => exact let ⟨_, _, _, q2⟩ := ho; q2.elim
theorem fnD {P : Program} {w : World} {K : PySem.W.Frag} {mg : Str → Option Value} {base : Heap} {x qual : Str} {st : Stmt} {f : Addr} {fd : FuncData} {N ps : List Str} {k : Nat} {sp : SpD} {tb : SD} (F : Fun K x qual st f fd) (S : FnScope N ps (defScope st)) (mono : MonoSp sp)
    (len : ∀ ds s Q E, sp ds s Q E → ds.length = ps.length)
    (body : ∀ (cdv : Value) (A : Around) (outer : List PySem.Env) (s : Shared) (H : Hp) (E : XK), RoomG k (A.deeper (envOfC qual (defScope st) s.heap.objs.size f cdv)) → PSsD (dx0 (cxOf CX0 P w K mg base N qual (defScope st) f cdv A outer s H E).nox) (defBody st) tb)
    (h : ∀ ds s Q E, sp ds s Q E → tb (endsOf Q) (envD N ds) s) : FnD P w K mg base CX0 (k + 1) f fd ps sp := by
  obtain ⟨oc, od, kV, doc, pm, an, cdv, ct, osl, rfl, lk, hcd⟩ := F.ex
  refine fn_ofG lk hcd S len mono fun A outer s H vs Q E hr hs => ?_
  obtain ⟨ds, s0, A0, B, R, d, q⟩ := hs
  have b := body cdv A outer s H E hr
  refine ⟨_, b.pss.nox, envD N ds, s0, A0, B, ⟨R, repE_start d, trivial⟩, b.mono (endsOf (PostE K B H A0 s0 Q)) _ _ _ ⟨fun e s' q σ' H' A' r x re => ?_, fun _ _ q => q, fun _ _ q => False.elim q, fun _ _ q => False.elim q⟩ (h _ _ _ _ q)⟩
  exact q V.non H' A' r x .non
/-- the place of a body that may raise: what is known is that the world came from the start's -/
def dxR {CX : CXT} (P : Program) (w : World) (K : PySem.W.Frag) (mg : Str → Option Value) (base : Heap) (N : List Str) (qual : Str) (scope : Scope) (f : Addr) (cdv : Value) (A : Around) (outer : List PySem.Env) (s : Shared) (H : Hp) (E : XK) (hC : CX = L2.CX P w) (B0 : List Addr) (A0 : List Addr) (s0 : Sto) : DX :=
  { cxOf CX P w K mg base N qual scope f cdv A outer s H E with
    W := fun cls d _ H' => E cls d H'
    tk := by subst hC; exact takes_of rfl rfl rfl rfl
    Z := fun B H1 A1 s1 => B = B0 ∧ Ext B0 H A0 s0 H1 A1 s1
    zc := fun {B H1 H2 A1 A2 s1 s2} z e => ⟨z.1, z.2.trans (by rw [← z.1]; exact e)⟩
    WD := fun x fs _ s' => PostX K mg B0 H A0 s0 E x fs s'
    wd := fun x fs env s' cls dx σ B H' A' wo hm xr h => by
      obtain ⟨rs, re, rfl, ex⟩ := wo
      exact h cls dx H' A' hm rs ex xr }
/-- .. by the body's reading for every wish -/
theorem fnDX {P : Program} {w : World} {K : PySem.W.Frag} {mg : Str → Option Value} {base : Heap} {x qual : Str} {st : Stmt} {f : Addr} {fd : FuncData} {N ps : List Str} {k : Nat} {sp : SpD} {tb : WXD → SD} (F : Fun K x qual st f fd) (S : FnScope N ps (defScope st)) (mono : MonoSp sp)
    (len : ∀ ds s Q E, sp ds s Q E → ds.length = ps.length)
    (body : ∀ (cdv : Value) (A : Around) (outer : List PySem.Env) (s : Shared) (H : Hp) (E : XK) (B0 A0 : List Addr) (s0 : Sto), RoomG k (A.deeper (envOfC qual (defScope st) s.heap.objs.size f cdv)) →
      PSsD (dxR P w K mg base N qual (defScope st) f cdv A outer s H E rfl B0 A0 s0) (defBody st) (tb fun y fs _ s' => PostX K mg B0 H A0 s0 E y fs s'))
    (h : ∀ ds s Q E, sp ds s Q E → tb (fun y fs _ s' => E y fs s') (endsOf Q) (envD N ds) s) : FnD P w K mg base (L2.CX P w) (k + 1) f fd ps sp := by
  obtain ⟨oc, od, kV, doc, pm, an, cdv, ct, osl, rfl, lk, hcd⟩ := F.ex
  refine fn_ofG lk hcd S len mono fun A outer s H vs Q E hr hs => ?_
  obtain ⟨ds, s0, A0, B, R, d, q⟩ := hs
  have b := body cdv A outer s H E B A0 s0 hr
  refine ⟨_, b.pss, envD N ds, s0, A0, B, ⟨R, repE_start d, rfl, .refl⟩, b.mono (endsOf (PostE K B H A0 s0 Q)) _ _ _ ⟨fun e s' q σ' H' A' r x re => ?_, fun _ _ q => q, fun _ _ q => False.elim q, fun _ _ q => False.elim q⟩ (h _ _ _ _ q)⟩
  exact q V.non H' A' r x .non
def spLaw : SpD := fun ds s Q _ => ∃ ns : List Int, ds = [.frl (ns.map .int)] ∧ ns.length ≤ 63 ∧ (∀ z ∈ ns, Builtin.Int.intBits z ≤ 1048576) ∧ s = [] ∧ ∀ s', Q (.bl true) s'
theorem mono_spLaw : MonoSp spLaw := fun _ _ _ _ _ _ f _ ⟨ns, h1, h2, h3, h4, h5⟩ => ⟨ns, h1, h2, h3, h4, fun s' => f _ _ (h5 s')⟩
theorem len_spLaw {ps : List Str} (hn : ps.length = 1 := by rfl) : ∀ ds s Q E, spLaw ds s Q E → ds.length = ps.length := fun _ _ _ _ ⟨ns, h1, _⟩ => by rw [h1, hn]; rfl
def tabCs (K : PySem.W.Frag) : List (Addr × Addr) := lamNames.filterMap fun x => PySem.W.tabIn K x
/-- the heap of a law's start: the script, if it is read alone, and the empty tables -/
def OnlyT (H : Hp) (cs : List (Addr × Addr)) : Prop := ∀ b, H b = none ∨ b ∈ cs.map (·.2) ∨ ∃ o xs, H b = some (.frz o (.lst xs))
theorem tabs_start {K : PySem.W.Frag} {H : Hp} (hT : ∀ p ∈ tabCs K, H p.2 = some (.tbl #[])) : LamX.Tabs (tabsOf K) H := fun p hp => by
  obtain ⟨x, hx, e⟩ := List.mem_filterMap.mp hp
  cases ht : PySem.W.tabIn K x with
  | none => rw [ht] at e; cases e
  | some cp =>
    rw [ht] at e
    cases e
    exact .nil (hT cp (List.mem_filterMap.mpr ⟨x, hx, ht⟩))
theorem law_hsp {K : PySem.W.Frag} {mg : Str → Option Value} {H : Hp} {a : Addr} {ns : List Int} (hl : ns.length ≤ 63) (hb : ∀ z ∈ ns, Builtin.Int.intBits z ≤ 1048576) (hO : OnlyT H (tabCs K)) (hT : ∀ p ∈ tabCs K, H p.2 = some (.tbl #[])) (hS : SqL K H a (ns.map V.int)) : liftSp K mg spLaw [.ref a] H (fun v _ => v = .bl true) fun _ _ _ => False := by
  have R : RepS K [] H [] [] := ⟨rfl, .nil, (fun a ha => nomatch ha), (fun b hb => nomatch hb), (fun b hb => nomatch hb), (fun b hb => nomatch hb), (fun b hb => nomatch hb), tabs_start hT, (fun l mo h => nomatch (show (none : Option (Option MO)) = some (some mo) from h))⟩
  have nl : ∀ b, ¬ Live [] [] b := fun b ⟨l, mo, h, _⟩ => by simp at h
  have hF : SqF K (Fz [] H [] []) a (ns.map V.int) := by
    rcases hS with (h | ⟨o, h⟩) | h
    · rcases hO a with e | e | ⟨o, xs, e⟩
      · rw [h] at e; cases e
      · obtain ⟨p, hp, rfl⟩ := List.mem_map.mp e
        rw [hT p hp] at h; cases h
      · rw [h] at e; cases e
    · exact .inl ⟨o, fz_to h (nl _) (by simp)⟩
    · exact .inr h
  refine ⟨[.frl (ns.map .int)], [], [], [], R, .cons (.frl hF (DatL.of_ints ns)) .nil, ns, rfl, hl, hb, rfl, fun s' v H' A' r e d => ?_⟩
  cases d
  rfl
/-- what is read alone, and the tables, hidden from the ground: the ground's own facts -/
structure GroundG (K : PySem.W.Frag) (H : Hp) (a : Addr) : Prop where
  on : OnlyT H (tabCs K)
  ts : ∀ p ∈ tabCs K, H p.2 = some (.tbl #[])
  at_ : ∀ b, H b ≠ none → b = a ∨ b ∈ (tabCs K).map (·.2)
  kn : H a ≠ none → K.lookup a = none
theorem GroundG.free {K : PySem.W.Frag} {H : Hp} {a b : Addr} (g : GroundG K H a) (n : b ≠ a) (m : b ∉ (tabCs K).map (·.2)) : H b = none := by
  cases q : H b with
  | none => rfl
  | some u => exact ((g.at_ b (by simp [q])).elim n m).elim
/-- the tables stand at h, empty, and K does not tell them -/
structure TabH (K : PySem.W.Frag) (h : Heap) : Prop where
  e : ∀ p ∈ tabCs K, h.get? p.2 = some { cls := .none, data := .fields #[] }
  n : ∀ p ∈ tabCs K, K.lookup p.2 = none
  c : ∀ p ∈ tabCs K, PySem.W.CodeHd h p.1 p.2
def TabsB (K : PySem.W.Frag) (mg : Str → Option Value) (base : Heap) : Prop := ∀ p ∈ tabCs K, LamX.TabB base mg p.1 p.2
theorem law_coreG {P : Program} {w : World} {K : PySem.W.Frag} {mg mb : Str → Option Value} {fa a : Addr} {s₁ : Shared} {vs : List Value} {ns : List Int}
    (KX : K.In s₁.heap) (hns : s₁.heap.Ns mainGlobals mg) (hb : s₁.heap.Ns builtinsNs mb) (hbb : ∀ y : Str, y ≠ "__name__" → mb y = bootBuiltins y) (hlim : s₁.heap.NoLimit) (hg : s₁.gens = #[]) (hTb : TabH K s₁.heap)
    (hbm : ∃ (bm : Addr) (ob : Obj), mg "__builtins__" = some (.ref bm) ∧ bm ≠ builtinsNs ∧ s₁.heap.get? bm = some ob ∧ ob.cls = .type "module" ∧ ob.dict = some builtinsNs ∧ ob.data = .plain)
    (ha : s₁.heap.get? a = some { cls := .type "list", data := .seq vs.toArray }) (hi : IntsAre vs ns) (hl : ns.length ≤ sizeLine)
    (R : ∀ (base : Heap) (H : Hp), K.In base → base.Ns mainGlobals mg → TabsB K mg base → Env0 P w K mg base callerA [] s₁ H → OnlyT H (tabCs K) → (∀ p ∈ tabCs K, H p.2 = some (.tbl #[])) → SqL K H a (ns.map V.int) → codeAny (model P w) callerA (.call (.ref fa) ⟨[.ref a], []⟩) (CR CX0 [] P w H s₁ (fun v _ => v = .bl true) fun _ _ _ => False) s₁) :
    codeAny (model P w) callerA (.call (.ref fa) ⟨[.ref a], []⟩) (fun r s' => r = .ok (.ret (.bool true)) ∧ OldK s₁.heap s'.heap ∧ s'.os = s₁.os ∧ AllBare s'.gens) s₁ := by
  have rel := vals_ints hi
  -- at a table nothing but the empty fields stands
  have tab : ∀ b, b ∈ (tabCs K).map (·.2) → s₁.heap.get? b = some { cls := .none, data := .fields #[] } := fun b hb => by
    obtain ⟨p, hp, rfl⟩ := List.mem_map.mp hb
    exact hTb.e p hp
  have ntab : ∀ {b o}, s₁.heap.get? b = some o → o.data ≠ .fields #[] → b ∉ (tabCs K).map (·.2) := fun e n z => by
    rw [tab _ z] at e
    cases e
    exact n rfl
  have aT : a ∉ (tabCs K).map (·.2) := ntab ha (fun z => nomatch z)
  -- over a ground
  have go : ∀ H : Hp, GroundG K H a → SqL K H a (ns.map V.int) → HOk P w H s₁.heap → codeAny (model P w) callerA (.call (.ref fa) ⟨[.ref a], []⟩) (fun r s' => r = .ok (.ret (.bool true)) ∧ OldK s₁.heap s'.heap ∧ s'.os = s₁.os ∧ AllBare s'.gens) s₁ := by
    intro H gr sq ok
    have up : ∀ {b o}, s₁.heap.get? b = some o → (∀ us n, o.data ≠ .seq us n) → o.data ≠ .fields #[] → (hidT s₁.heap H).get? b = some o := fun {b o} e n1 n2 => by
      refine hidT_get e (gr.free ?_ (ntab e n2))
      rintro rfl
      rw [ha] at e
      cases e
      exact n1 _ _ rfl
    have ns_ : ∀ {b : Addr} {m : Str → Option Value}, s₁.heap.Ns b m → (hidT s₁.heap H).Ns b m := by
      rintro b m ⟨o, es, ep, e, d, r⟩
      exact ⟨o, es, ep, up e (fun us n z => by rw [d] at z; cases z) (fun z => by rw [d] at z; cases z), d, r⟩
    have kin : K.In (hidT s₁.heap H) := by
      intro b o e
      refine hidT_get (KX b o e) ?_
      have nt : b ∉ (tabCs K).map (·.2) := fun z => by
        obtain ⟨p, hp, rfl⟩ := List.mem_map.mp z
        rw [hTb.n p hp] at e; cases e
      by_cases n : b = a
      · subst n
        cases q : H b with
        | none => rfl
        | some u => rw [gr.kn (by simp [q])] at e; cases e
      · exact gr.free n nt
    have tbs : TabsB K mg (hidT s₁.heap H) := fun p hp => by
      obtain ⟨o, es, ep, e, hd, r⟩ := hns
      obtain ⟨bm, ob, b1, b2, b3, b4, b5, b6⟩ := hbm
      have tp := hTb.e p hp
      refine ⟨?_, ⟨bm, ob, b1, b2, fun z => ?_, fun z => ?_, up b3 (fun us n z => by rw [b6] at z; cases z) (fun z => by rw [b6] at z; cases z), b4, b5, b6⟩, fun z => ?_⟩
      · obtain ⟨oc, us, file, tf, flags, tg, inF, text, tt, c1, c2, c3, c4, cr⟩ := hTb.c p hp
        refine ⟨oc, us, file, tf, flags, tg, inF, text, tt, up c1 (fun us n z => by rw [c3] at z; cases z) (fun z => ?_), c2, c3, c4, cr⟩
        rw [c3] at z
        cases z
        simp at c4
      · rw [z, e] at b3
        cases b3
        rw [hd] at b6
        cases b6
      · rw [z, tp] at b3
        cases b3
        cases b6
      · rw [z, tp] at e
        cases e
        cases hd
    obtain ⟨mc, c1, c2⟩ := hlim
    have e0 : Env0 P w K mg (hidT s₁.heap H) callerA [] s₁ H :=
      ⟨rfl, ⟨kin, ns_ hns, ⟨mb, ns_ hb, hbb⟩, ⟨mc, ns_ c1, c2⟩⟩, fun b o => of_hidT, Nat.le_of_eq (hidT_size _ _), trivial, fun _ z => (nomatch z), ok, .of_eq hg⟩
    refine codeAny_mono (R _ H kin (ns_ hns) tbs e0 gr.on gr.ts sq) fun o s2 ho => ?_
    match o, ho with
    | .ok (.ret u), ⟨v, H2, os, bare, un, ok2, rv, q⟩ =>
      have q2 : v = .bl true := q
      subst q2
      have ru : u = Value.bool true := rv
      subst ru
      have grown : ∀ p ∈ tabCs K, ∃ more : Array Value, s2.heap.get? p.2 = some { cls := .none, data := .fields more } := fun p hp => by
        obtain ⟨more, z⟩ := un.tbls p.2 #[] (gr.ts p hp)
        exact ⟨_, ok2 p.2 _ z⟩
      have rest : ∀ b ob, b ∉ (tabCs K).map (·.2) → s₁.heap.get? b = some ob → s2.heap.get? b = some ob := fun b ob nb e => by
        rcases gr.on b with z | z | ⟨o1, xs, z⟩
        · exact un.keep b ob e z (fun y => nomatch y) (fun y => nomatch y)
        · exact absurd z nb
        · have y := (ok2 b _ (un.frzs b o1 _ z)).1
          have y0 := (ok b _ z).1
          rw [y0] at e
          cases e
          exact y
      refine ⟨rfl, ⟨fun b ob e => ?_, fun b ob e => ?_⟩, os, bare⟩
      · by_cases nb : b ∈ (tabCs K).map (·.2)
        · obtain ⟨p, hp, rfl⟩ := List.mem_map.mp nb
          obtain ⟨more, hm⟩ := grown p hp
          rw [hTb.e p hp] at e
          cases e
          exact .inr (.inl ⟨((hTb.c p hp).tab (hTb.e p hp)).isCodeTable, rfl, #[], more, rfl, by rw [Array.empty_append]; exact hm⟩)
        · exact .inl (rest b ob nb e)
      · by_cases nb : b ∈ (tabCs K).map (·.2)
        · obtain ⟨p, hp, rfl⟩ := List.mem_map.mp nb
          obtain ⟨more, hm⟩ := grown p hp
          exact ⟨_, hm⟩
        · exact ⟨ob, rest b ob nb e⟩
  have memT : ∀ p ∈ tabCs K, p.2 ∈ (tabCs K).map (·.2) := fun p hp => List.mem_map.mpr ⟨p, hp, rfl⟩
  by_cases hk : K.lookup a = none
  · refine go (fun b => if b = a then some (.frz { cls := .type "list", data := .seq vs.toArray } (.lst (ns.map V.int))) else if b ∈ (tabCs K).map (·.2) then some (.tbl #[]) else none) ⟨fun b => ?_, fun p hp => ?_, fun b z => ?_, fun _ => hk⟩ (.inl (.inr ⟨_, if_pos rfl⟩)) fun b u z => ?_
    · by_cases n : b = a
      · exact .inr (.inr ⟨_, _, if_pos n⟩)
      · by_cases m : b ∈ (tabCs K).map (·.2)
        · exact .inr (.inl m)
        · exact .inl ((if_neg n).trans (if_neg m))
    · exact (if_neg (fun z => aT (by rw [← z]; exact memT p hp))).trans (if_pos (memT p hp))
    · by_cases n : b = a
      · exact .inl n
      · by_cases m : b ∈ (tabCs K).map (·.2)
        · exact .inr m
        · exact absurd ((if_neg n).trans (if_neg m)) z
    · dsimp only at z
      by_cases n : b = a
      · rw [if_pos n] at z
        cases z
        rw [n]
        exact ⟨ha, by simpa using hl, vs, _, rel, ha⟩
      · rw [if_neg n] at z
        by_cases m : b ∈ (tabCs K).map (·.2)
        · rw [if_pos m] at z
          cases z
          exact tab b m
        · rw [if_neg m] at z
          cases z
  · obtain ⟨o, ho⟩ := Option.ne_none_iff_exists'.mp hk
    have e := KX a o ho
    rw [ha] at e
    cases e
    refine go (fun b => if b ∈ (tabCs K).map (·.2) then some (.tbl #[]) else none) ⟨fun b => ?_, fun p hp => if_pos (memT p hp), fun b z => ?_, fun z => absurd (if_neg aT) z⟩ (.inr ⟨_, vs.toArray, _, ho, rfl, rfl, rfl, by rw [List.size_toArray, hi.length]; exact hl, by simpa using rel⟩) fun b u z => ?_
    · by_cases m : b ∈ (tabCs K).map (·.2)
      · exact .inr (.inl m)
      · exact .inl (if_neg m)
    · by_cases m : b ∈ (tabCs K).map (·.2)
      · exact .inr m
      · exact absurd (if_neg m) z
    · dsimp only at z
      by_cases m : b ∈ (tabCs K).map (·.2)
      · rw [if_pos m] at z
        cases z
        exact tab b m
      · rw [if_neg m] at z
        cases z
/-- the law's promise at the heap behind the top -/
theorem law_callG {P : Program} {w : World} {K : PySem.W.Frag} {mg mb : Str → Option Value} {k : Nat} {fa a : Addr} {fd : FuncData} {x : Str} {s₁ : Shared} {vs : List Value} {ns : List Int}
    (KX : K.In s₁.heap) (hns : s₁.heap.Ns mainGlobals mg) (hb : s₁.heap.Ns builtinsNs mb) (hbb : ∀ y : Str, y ≠ "__name__" → mb y = bootBuiltins y) (hlim : s₁.heap.NoLimit) (hg : s₁.gens = #[]) (hTb : TabH K s₁.heap)
    (hbm : ∃ (bm : Addr) (ob : Obj), mg "__builtins__" = some (.ref bm) ∧ bm ≠ builtinsNs ∧ s₁.heap.get? bm = some ob ∧ ob.cls = .type "module" ∧ ob.dict = some builtinsNs ∧ ob.data = .plain)
    (ha : s₁.heap.get? a = some { cls := .type "list", data := .seq vs.toArray }) (hi : IntsAre vs ns) (hl : ns.length ≤ 63) (hbits : ∀ z ∈ ns, Builtin.Int.intBits z ≤ 1048576) (hr : RoomG k callerA)
    (F : ∀ base : Heap, K.In base → base.Ns mainGlobals mg → TabsB K mg base → FnD P w K mg base CX0 k fa fd [x] spLaw) (hbind : ∀ (s : Shared) (u : Value), BindsTo s fd ⟨[u], []⟩ [(x, u)]) :
    codeAny (model P w) callerA (.call (.ref fa) ⟨[.ref a], []⟩) (fun r s' => r = .ok (.ret (.bool true)) ∧ OldK s₁.heap s'.heap ∧ s'.os = s₁.os ∧ AllBare s'.gens) s₁ := by
  refine Dl.law_coreG KX hns hb hbb hlim hg hTb hbm ha hi (Nat.le_trans hl (by decide)) fun base H b1 b2 b3 e0 hO hT hS => ?_
  exact (F base b1 b2 b3).run callerA [] s₁ H ⟨[.ref a], []⟩ [.ref a] [.ref a] (fun v _ => v = .bl true) (fun _ _ _ => False) hr e0 (hbind s₁ (.ref a)) (.cons rfl .nil) (law_hsp hl hbits hO hT hS)
theorem law_walk {l : PySem.W.OpenLaw} {q : Program} {loose : List Str} {XP : (Str → Option Value) → Heap → Prop} {YP : World → Heap → Prop} {d : DefRec} {K : Params → PySem.W.Frag} {k : Nat} {x : Str} (hn : l.most = some 63) (hdf : d.params.defaults = []) (hr : Room k callerA)
    (hY : ∀ (w : World) (h : Heap), YP w h → (K w.params).In h) (hK : ∀ w : World, PySem.W.noTabs (K w.params) = true)
    (hD : ∀ w : World, ∀ x ∈ lamNames, ∀ cp, PySem.W.tabIn (K w.params) x = some cp → ∃ d, (recsOf q).find? (fun e => e.name == x) = some d)
    (F : ∀ (w : World) (mg : Str → Option Value) (fa : Addr) (h : Heap), (K w.params).In h → h.Ns mainGlobals mg → mg d.name = some (.ref fa) →
      ∃ fd : FuncData, (∀ (s : Shared) (u : Value), BindsTo s fd ⟨[u], []⟩ [(x, u)]) ∧ ∀ base : Heap, (K w.params).In base → base.Ns mainGlobals mg → TabsB (K w.params) mg base → FnD l.prog w (K w.params) mg base CX0 k fa fd [x] spLaw) :
    PySem.W.WalkO q loose XP YP l.row.toRowW d [] (fun f vs => PySem.call f vs) := by
  refine Att.attach_callB hn hdf ?_
  intro w s₀ s₁ mg mb fa o pm cd doc a vs ns G Y ho hd hcd hmg hobj hints hlen hbits hg
  have KX := hY w _ Y
  obtain ⟨fd, hb, hF⟩ := F w mg fa _ KX G.T.g hmg
  have tb : ∀ p ∈ tabCs (K w.params), PySem.W.CodeHd s₁.heap p.1 p.2 ∧ s₁.heap.get? p.2 = some (PySem.W.tabObj #[]) := fun p hp => by
    obtain ⟨x, hx, e⟩ := List.mem_filterMap.mp hp
    obtain ⟨d, hd⟩ := hD w x hx p e
    exact PySem.W.tab_of G.T KX hd e
  have hTb : TabH (K w.params) s₁.heap := ⟨fun p hp => (tb p hp).2, fun p hp => ?_, fun p hp => (tb p hp).1⟩
  · exact law_callG KX G.T.g G.T.b G.T.builtins G.T.nolimit hg hTb G.T.bmain hobj hints hlen hbits ⟨hr, rfl⟩ hF hb
  · cases e : (K w.params).lookup p.2 with
    | none => rfl
    | some o =>
      have e2 := KX _ _ e
      rw [(tb p hp).2] at e2
      cases e2
      have h2 := List.all_eq_true.mp (hK w) (p.2, PySem.W.tabObj #[]) (PySem.W.mem_of_lookupK e)
      exact absurd (show false = true from h2) Bool.false_ne_true
end Dl
set_option Elab.async false
set_option linter.all false
set_option autoImplicit false
set_option maxRecDepth 100000
set_option maxHeartbeats 4000000
namespace Dl
open PySem PySem.Spec PyProof.Rows L2
section
variable {pos p : Pos} {e tg : Expr} {te : ED}
theorem itok_str {K : PySem.W.Frag} {B : List Addr} {H : Hp} {A : List Addr} {s : Sto} {x : Str} : ItOk K B (Its x) (signsD x) noG H A s := by
  intro B' H' A' s' R e p hg i
  have hlen : (signsD x).length = x.cps.size := by simp [signsD]
  refine ⟨fun d hi => ?_, fun hi => show x.cps.size ≤ i by rw [← hlen]; exact hi⟩
  have hn : i < x.cps.size := by
    have := (List.getElem?_eq_some_iff.mp hi).1
    rwa [hlen] at this
  obtain ⟨c, hc⟩ : ∃ c, x.cps[i]? = some c := ⟨_, Array.getElem?_eq_getElem hn⟩
  have hd : d = .str ⟨#[c]⟩ := by
    simp only [signsD, List.getElem?_map, Array.getElem?_toList, hc, Option.map_some] at hi
    exact (Option.some.inj hi).symm
  refine ⟨hn, fun v H2 ⟨eH, c', hc', hx⟩ => ?_⟩
  rw [hc] at hc'; cases hc'
  subst eH hx hd
  exact ⟨R, .refl, .str _ (by show 1 ≤ sizeLine; decide)⟩
def revF (s : Sto) (x : D) : Option D := match x with
  | .tup xs => some (.tup xs.reverse)
  | x => (seqL s x).map fun xs => .lst xs.reverse
theorem rep_toList (a : Array Nat) : ∀ (n : Nat) (acc : Array Nat), ((List.replicate n a).foldl (· ++ ·) acc).toList = acc.toList ++ (List.replicate n a.toList).flatten
  | 0, acc => by simp
  | n + 1, acc => by
    rw [List.replicate_succ, List.foldl_cons, rep_toList a n, List.replicate_succ, List.flatten_cons, Array.toList_append, List.append_assoc]
def repS (a : Str) (n : Nat) : Str := ⟨(List.replicate n a.cps.toList).flatten.toArray⟩
theorem repS_length (a : Str) (n : Nat) : (repS a n).length = n * a.length := by
  show (List.replicate n a.cps.toList).flatten.toArray.size = _
  rw [List.size_toArray, List.length_flatten]
  simp [Str.length]
def mulS (_ : Sto) (x y : D) : Option D := match x, y with
  | .str a, .int n => if n.toNat * a.length ≤ 100000 ∧ a.length ≤ 100000 ∧ -1000000 ≤ n ∧ n ≤ 1000000 then some (.str (repS a n.toNat)) else none
  | _, _ => none
theorem op_mulS {X : Cx} : OpR X (binaryOp .Mult) (fun x y H Q => ∃ a n, x = .str a ∧ y = .int n ∧ (n.toNat * a.length ≤ 100000 ∧ a.length ≤ 100000 ∧ -1000000 ≤ n ∧ n ≤ 1000000) ∧ Q (.str (repS a n.toNat)) H) := by
  intro pins s σ H x y v u Q I rx ry h
  obtain ⟨a, n, rfl, rfl, ⟨h1, h2, h3, h4⟩, q⟩ := h
  obtain ⟨t, rfl⟩ := rx
  obtain ⟨t', rfl⟩ := ry
  refine PySem.P.mul_str ?_ (fun g1 g2 => ?_) (fun g1 g2 => ?_) ?_
  · rw [decide_eq_false (by omega), decide_eq_false (by omega)]; rfl
  · intro z
    have e : (2 ^ 63 - 1 : Int) / 1000000 ≤ (2 ^ 63 - 1) / n := Int.le_ediv_of_mul_le (by omega) (Int.le_trans (Int.mul_le_mul_of_nonneg_left h4 (by decide)) (by decide))
    have e2 : (9223372036854 : Int) = (2 ^ 63 - 1) / 1000000 := by decide
    omega
  · refine decide_eq_false fun z => ?_
    have : sizeLine = 16777216 := sizeLine_eq
    rw [Nat.mul_comm] at h1
    omega
  · have key : ∀ t2 k, EP X pins σ Q (.str (repS a n.toNat) t2) { s with toks := k } := fun t2 k => ⟨.str (repS a n.toNat), H, I.tok _, ⟨_, rfl⟩, q⟩
    by_cases c1 : n < 1
    · rw [if_pos c1]
      have e : Str.empty = repS a n.toNat := by
        have : n.toNat = 0 := by omega
        rw [this]; rfl
      refine ⟨by decide, ?_⟩
      rw [e]
      exact key _ _
    · rw [if_neg c1]
      by_cases c2 : (n == 1 || a.length == 0) = true
      · rw [if_pos c2]
        have e : a = repS a n.toNat := by
          have c3 := Bool.or_eq_true_iff.mp c2
          have ha : a = ⟨a.cps.toList.toArray⟩ := by simp
          rcases c3 with c3 | c3
          · have : n.toNat = 1 := by have := eq_of_beq c3; omega
            rw [this]
            show a = ⟨(List.replicate 1 a.cps.toList).flatten.toArray⟩
            simp
          · have hz : a.cps.toList = [] := by
              have := eq_of_beq c3
              have h0 : a.cps.size = 0 := this
              rw [← Array.length_toList] at h0
              exact List.eq_nil_of_length_eq_zero h0
            have hb : ∀ m : Nat, (List.replicate m ([] : List Nat)).flatten = [] := fun m => by
              induction m with
              | zero => rfl
              | succ m ih => rw [List.replicate_succ, List.flatten_cons, ih]; rfl
            show a = ⟨(List.replicate n.toNat a.cps.toList).flatten.toArray⟩
            rw [hz, hb]
            rw [ha, hz]
        rw [e]
        exact key _ _
      · rw [if_neg c2]
        have e : (⟨(List.replicate n.toNat a.cps).foldl (· ++ ·) #[]⟩ : Str) = repS a n.toNat := by
          have := rep_toList a.cps n.toNat #[]
          unfold repS
          congr 1
          apply Array.ext'
          rw [this]
          simp
        rw [e]
        refine ⟨?_, key _ _⟩
        show (repS a n.toNat).length ≤ sizeLine
        rw [repS_length, sizeLine_eq]
        omega
theorem opx_mulS {X : Cx} : OpX X (binaryOp .Mult) (oF mulS) := opx_of op_mulS fun x y s v w H A B Q R dv dw ⟨z, e, q⟩ => by
  unfold mulS at e
  split at e
  · split at e
    · rename_i hc
      cases e
      cases dv
      cases dw
      refine ⟨_, _, rfl, rfl, hc, q.here R (.str _ ?_)⟩
      rw [repS_length]
      have : sizeLine = 16777216 := sizeLine_eq
      omega
    · cases e
  · cases e
theorem opx_mul {X : Cx} : OpX X (binaryOp .Mult) (oOr (oIIc MulOk fun i j => .int (i * j)) (oF mulS)) := opx_mul_ii.or opx_mulS
def strF (_ : Sto) : List D → Option D
  | [.int i] => if i.natAbs.log2 < 1920 then some (.str (toString i)) else none
  | [.bl b] => some (.str (if b then "True" else "False"))
  | [.str a] => some (.str a)
  | _ => none
end
end Dl
set_option Elab.async false
set_option linter.all false
set_option autoImplicit false
set_option maxRecDepth 100000
set_option maxHeartbeats 4000000
namespace Dl
open PySem PySem.Spec PyProof.Rows L2
section
variable {pos p : Pos} {e tg : Expr} {te : ED}
def iAny (K : PySem.W.Frag) (tl : TE) : TI := fun σ H R => tl σ H fun x H1 => (∃ a, x = .ref a ∧ (∃ xs, SqL K H1 a xs) ∧ R (Itl K a) H1) ∨ (∃ a, x = .ref a ∧ (∃ xs, SqT K H1 a xs) ∧ R (Itt K a) H1) ∨ ∃ z, x = .str z ∧ R (Its z) H1
theorem pi_any {X : Cx} {tl : TE} (hl : PE X e tl) : PI X tg e (iAny X.K tl) := by
  refine ⟨fun pins s σ H R I h => ?_⟩
  refine thn (hl.run pins s σ H _ I h) fun v s1 ⟨x, H1, I1, r1, q1⟩ => ?_
  rcases q1 with ⟨a, ex, ⟨xs, hq⟩, q⟩ | ⟨a, ex, ⟨xs, hq⟩, q⟩ | ⟨z, ex, q⟩
  · subst ex
    cases r1
    obtain ⟨its, rv, p, hz⟩ := I1.list hq
    refine wpAny_pyIter_list p.isList ?_
    refine ⟨s1.heap.objs.size, [s1.heap.objs.size], _, _, H1, rfl, I1.kept (t' := s1.toks) fun b o e => Heap.get?_push_of_some _ e, turn_list a _, ⟨_, Heap.get?_push_size _ rfl, rfl, rfl⟩, fun b hb => ?_, q⟩
    have e : b = s1.heap.objs.size := by simpa using hb
    subst e
    exact I1.fpOk (Nat.le_refl _) (I1.hok.fresh (Nat.le_refl _))
  · subst ex
    cases r1
    obtain ⟨its, rv, p, hz⟩ := I1.tuple hq
    refine wpAny_pyIter_tuple (show s1.heap.IsTuple a its.toArray from p) ?_
    refine ⟨s1.heap.objs.size, [s1.heap.objs.size], _, _, H1, rfl, I1.kept (t' := s1.toks) fun b o e => Heap.get?_push_of_some _ e, turn_tuple a _, ⟨_, Heap.get?_push_size _ rfl, rfl, rfl⟩, fun b hb => ?_, q⟩
    have e : b = s1.heap.objs.size := by simpa using hb
    subst e
    exact I1.fpOk (Nat.le_refl _) (I1.hok.fresh (Nat.le_refl _))
  · subst ex
    obtain ⟨t, rfl⟩ := r1
    cases ha : z.cps.all (· < 128)
    · exact wpAny_pyIter_wide ha (pi_one (tk := s1.toks) I1 _ (turn_str _ z t "str_iterator" (.inr rfl)) ⟨_, Heap.get?_push_size _ rfl, rfl, rfl⟩ q)
    · exact wpAny_pyIter_ascii ha (pi_one (tk := s1.toks) I1 _ (turn_str _ z t "str_ascii_iterator" (.inl rfl)) ⟨_, Heap.get?_push_size _ rfl, rfl, rfl⟩ q)
/-- what x walks: its items; what must stay -/
def isW (s : Sto) (x : D) (ds : List D) (g : Sto → Prop) : Prop := isL s x ds g ∨ (x = .tup ds ∧ g = noG) ∨ ∃ z, x = .str z ∧ ds = signsD z ∧ g = noG
def iW (te : ED) : ID := fun env s R => te env s fun x s1 => ∃ ds g, isW s1 x ds g ∧ R ds g s1
theorem mono_iW (me : Mono te) : MonoI (iW te) := fun _ _ _ _ f h => me _ _ _ _ (fun _ _ ⟨ds, g, e, q⟩ => ⟨ds, g, e, f _ _ _ q⟩) h
theorem pid_any {X : DX} (he : PD X e te) : PID X tg e (iW te) :=
  ⟨pi_imp (pi_any he.pe) fun σ H R ⟨env, s, A, B, w, h⟩ => rdE_go he.mono w h fun x s1 v H1 A1 ⟨ds, g, hx, q⟩ w1 e1 dv => by
    rcases hx with hx | ⟨rfl, rfl⟩ | ⟨z, rfl, rfl, rfl⟩
    · obtain ⟨a, vs, ea, hs, hd, ok⟩ := isL_rd w1.rs dv hx
      exact .inl ⟨a, ea, ⟨vs, hs⟩, q _ _ _ w1.rs e1 ok⟩
    · cases dv with
      | tup hs hd => exact .inr (.inl ⟨_, rfl, ⟨_, sqT_fz hs⟩, q _ _ _ w1.rs e1 (itok_tup (fun B' H' A' s' R' e p _ => sqT_fz (hs.same e)) hd)⟩)
    · cases dv
      exact .inr (.inr ⟨z, rfl, q _ _ _ w1.rs e1 itok_str⟩), mono_iW he.mono⟩
theorem isW_lst {s : Sto} {ds : List D} : isW s (.lst ds) ds noG := .inl (.inl ⟨rfl, rfl⟩)
theorem isW_ref {s : Sto} {l : Nat} {ds : List D} (h : s[l]? = some (some (.lst ds))) : isW s (.ref l) ds (fun s' => s'[l]? = some (some (.lst ds))) := .inl (.inr (.inr ⟨l, rfl, h, rfl⟩))
theorem isW_tup {s : Sto} {ds : List D} : isW s (.tup ds) ds noG := .inr (.inl ⟨rfl, rfl⟩)
theorem isW_str {s : Sto} {z : Str} : isW s (.str z) (signsD z) noG := .inr (.inr ⟨z, rfl, rfl, rfl⟩)
theorem pd_gintE {X : DX} {x : Str} {i : Int} (hg : Gl X x) (hm : ∃ t, X.mg x = some (.int i t)) (hd : (x == ("__debug__" : Str)) = false := by decide) : PD X (.Name x pos) (dC (.int i)) := let ⟨_, h⟩ := hm; pd_gint hg h hd
theorem pd_gstrE {X : DX} {x z : Str} (hg : Gl X x) (hm : ∃ t, X.mg x = some (.str z t)) (hz : z.length ≤ sizeLine := by decide +kernel) (hd : (x == ("__debug__" : Str)) = false := by decide) : PD X (.Name x pos) (dC (.str z)) := let ⟨_, h⟩ := hm; pd_gstr hg h hz hd
end
/-- a def of the module that keeps its promise, by its name -/
def Kn (P : Program) (w : World) (K : PySem.W.Frag) (mg : Str → Option Value) (base : Heap) (x : Str) (k : Nat) (ps : List Str) (sp : SpD) : Prop :=
  ∃ (f : Addr) (fd : FuncData), FnD P w K mg base CX0 k f fd ps sp ∧ mg x = some (.ref f) ∧ PySem.W.keepIn K (.ref f) = true ∧ Binds K fd ps []
/-- a def of the module, by its name: where it stands -/
def At (K : PySem.W.Frag) (mg : Str → Option Value) (x : Str) (st : Stmt) (ps : List Str) : Prop :=
  ∃ (f : Addr) (fd : FuncData), Fun K x x st f fd ∧ mg x = some (.ref f) ∧ Binds K fd ps []
theorem Kn.mk {P : Program} {w : World} {K : PySem.W.Frag} {mg : Str → Option Value} {base : Heap} {x : Str} {st : Stmt} {N ps : List Str} {k : Nat} {sp : SpD} {tb : SD} (a : At K mg x st ps) (S : FnScope N ps (defScope st)) (mono : MonoSp sp)
    (len : ∀ ds s Q E, sp ds s Q E → ds.length = ps.length)
    (body : ∀ (f : Addr) (cdv : Value) (A : Around) (outer : List PySem.Env) (s : Shared) (H : Hp) (E : XK), RoomG k (A.deeper (envOfC x (defScope st) s.heap.objs.size f cdv)) → PSsD (dx0 (cxOf CX0 P w K mg base N x (defScope st) f cdv A outer s H E).nox) (defBody st) tb)
    (h : ∀ ds s Q E, sp ds s Q E → tb (endsOf Q) (envD N ds) s) : Kn P w K mg base x (k + 1) ps sp := by
  obtain ⟨f, fd, F, hm, hb⟩ := a
  exact ⟨f, fd, fnD F S mono len (body f) h, hm, F.kp, hb⟩
/-- .. that may raise -/
def KnX (P : Program) (w : World) (K : PySem.W.Frag) (mg : Str → Option Value) (base : Heap) (x : Str) (k : Nat) (ps : List Str) (sp : SpD) : Prop :=
  ∃ (f : Addr) (fd : FuncData), FnD P w K mg base (L2.CX P w) k f fd ps sp ∧ mg x = some (.ref f) ∧ PySem.W.keepIn K (.ref f) = true ∧ Binds K fd ps []
theorem KnX.mk {P : Program} {w : World} {K : PySem.W.Frag} {mg : Str → Option Value} {base : Heap} {x : Str} {st : Stmt} {N ps : List Str} {k : Nat} {sp : SpD} {tb : WXD → SD} (a : At K mg x st ps) (S : FnScope N ps (defScope st)) (mono : MonoSp sp)
    (len : ∀ ds s Q E, sp ds s Q E → ds.length = ps.length)
    (body : ∀ (f : Addr) (cdv : Value) (A : Around) (outer : List PySem.Env) (s : Shared) (H : Hp) (E : XK) (B0 A0 : List Addr) (s0 : Sto), RoomG k (A.deeper (envOfC x (defScope st) s.heap.objs.size f cdv)) →
      PSsD (dxR P w K mg base N x (defScope st) f cdv A outer s H E rfl B0 A0 s0) (defBody st) (tb fun y fs _ s' => PostX K mg B0 H A0 s0 E y fs s'))
    (h : ∀ ds s Q E, sp ds s Q E → tb (fun y fs _ s' => E y fs s') (endsOf Q) (envD N ds) s) : KnX P w K mg base x (k + 1) ps sp := by
  obtain ⟨f, fd, F, hm, hb⟩ := a
  exact ⟨f, fd, fnDX F S mono len (body f) h, hm, F.kp, hb⟩
def spNo : SpD := fun _ _ _ _ => False
theorem Kn.no {P : Program} {w : World} {K : PySem.W.Frag} {mg : Str → Option Value} {base : Heap} {x : Str} {st : Stmt} {N ps : List Str} (a : At K mg x st ps) (S : FnScope N ps (defScope st)) : Kn P w K mg base x 1 ps spNo := by
  obtain ⟨f, fd, F, hm, hb⟩ := a
  exact ⟨f, fd, fnD (tb := dNever) (k := 0) F S (fun _ _ _ _ _ _ _ _ h => h) (fun _ _ _ _ h => h.elim) (fun _ _ _ _ _ _ _ => pssd_never) (fun _ _ _ _ h => h.elim), hm, F.kp, hb⟩
theorem Kn.up {P : Program} {w : World} {K : PySem.W.Frag} {mg : Str → Option Value} {base : Heap} {x : Str} {ps : List Str} {j k : Nat} {sp : SpD} (c : Kn P w K mg base x j ps sp) (h : j ≤ k) : Kn P w K mg base x k ps sp := by
  obtain ⟨f, fd, F, h1, h2, h3⟩ := c
  exact ⟨f, fd, F.up h, h1, h2, h3⟩
section
variable {pos p : Pos} {k : Nat} {ps : List Str} {sp : SpD} {x : Str} {e : Expr} {es : List Expr} {t : AD}
theorem pd_kn {X : DX} (c : Kn X.prog X.w X.K X.mg X.base x k ps sp) (hr : RoomG k X.A) (hg : Gl X x) (ha : PAD X (e :: es) t)
    (h1 : starEach (e :: es) X.env = (false, eval e X.env) :: starEach es X.env := by rfl) (hpl : (backTo pos (starEach es X.env)).any (·.1) = false := by rfl) (hdb : (x == ("__debug__" : Str)) = false := by decide) : PD X (.Call (.Name x p) (e :: es) [] pos) (dCall sp [] t) := by
  obtain ⟨f, fd, F, hm, hk, hb⟩ := c
  exact pd_call F hr hg hm hk hb .nil (fun _ _ => .nil) ha h1 hpl hdb
theorem pd_knX {X : DX} (c : KnX X.prog X.w X.K X.mg X.base x k ps sp) (hr : RoomG k X.A) (hg : Gl X x) (ha : PAD X (e :: es) t)
    (h1 : starEach (e :: es) X.env = (false, eval e X.env) :: starEach es X.env := by rfl) (hpl : (backTo pos (starEach es X.env)).any (·.1) = false := by rfl) (hdb : (x == ("__debug__" : Str)) = false := by decide) : PD X (.Call (.Name x p) (e :: es) [] pos) (dCallX X.WD sp [] t) := by
  obtain ⟨f, fd, F, hm, hk, hb⟩ := c
  exact pd_callX F hr hg hm hk hb .nil (fun _ _ => .nil) ha h1 hpl hdb
end
abbrev oMul : O2 := oOr (oIIc MulOk fun i j => .int (i * j)) (oF mulS)
abbrev oMod : O2 := oIIc (fun _ j => 0 < j) fun i j => .int (i % j)
abbrev oDiv : O2 := oIIc DivOk fun i j => .int (i / j)
abbrev oPow : O2 := oIIc PowOk fun i j => .int (i ^ j.toNat)
section
variable {env : En} {s : Sto} {Q : D → Sto → Prop} {QT : Bool → Sto → Prop} {QA : List D → Sto → Prop} {E : EndsD} {t u c : TD} {a b : ED} {tr : AD} {d : D} {i : Nat} {o o' : O2} {ta tb tc : ED} {S S' : SD} {f : Sto → D → Option D} {g : Sto → List D → Option D}
@[simp] theorem r_var : dVar i env s Q = ∃ d, env[i]? = some (some d) ∧ Q d s := rfl
@[simp] theorem r_c : dC d env s Q = Q d s := rfl
@[simp] theorem r_bin : dBin o ta tb env s Q = ta env s fun x s1 => tb env s1 fun y s2 => o x y s2 Q := rfl
@[simp] theorem r_oF {f : Sto → D → D → Option D} {x y : D} : oF f x y s Q = ∃ z, f s x y = some z ∧ Q z s := rfl
@[simp] theorem r_un : dUn f ta env s Q = ta env s fun x s1 => ∃ z, f s1 x = some z ∧ Q z s1 := rfl
@[simp] theorem r_cb : dCB g tr env s Q = tr env s fun xs s1 => ∃ z, g s1 xs = some z ∧ Q z s1 := rfl
@[simp] theorem r_test : dTest ta env s QT = ta env s fun x s1 => ∃ k, x = .bl k ∧ QT k s1 := rfl
@[simp] theorem r_and : dAnd t u env s QT = t env s fun k s1 => if k = true then u env s1 QT else QT false s1 := rfl
@[simp] theorem r_or : dOr t u env s QT = t env s fun k s1 => if k = true then QT true s1 else u env s1 QT := rfl
@[simp] theorem r_not : dNot t env s QT = t env s fun k s1 => QT (!k) s1 := rfl
@[simp] theorem r_andV : dAndV ta tb env s Q = ta env s fun x s1 => ∃ k, x = .bl k ∧ if k = true then tb env s1 Q else Q (.bl false) s1 := rfl
@[simp] theorem r_orV : dOrV ta tb env s Q = ta env s fun x s1 => ∃ k, x = .bl k ∧ if k = true then Q (.bl true) s1 else tb env s1 Q := rfl
@[simp] theorem r_notV : dNotV ta env s Q = ta env s fun x s1 => ∃ k, x = .bl k ∧ Q (.bl (!k)) s1 := rfl
@[simp] theorem r_ifE : dIf t ta tb env s Q = t env s fun k s1 => if k = true then ta env s1 Q else tb env s1 Q := rfl
@[simp] theorem r_chain : dChain o o' ta tb tc env s Q = ta env s fun x s1 => tb env s1 fun y s2 => o x y s2 fun z s3 => ∃ k, z = .bl k ∧ if k = true then tc env s3 fun u s4 => o' y u s4 Q else Q (.bl false) s3 := rfl
@[simp] theorem r_nil : dNil env s QA = QA [] s := rfl
@[simp] theorem r_cons : dCons ta tr env s QA = ta env s fun x s1 => tr env s1 fun xs s2 => QA (x :: xs) s2 := rfl
@[simp] theorem r_tup : dTup tr env s Q = tr env s fun xs s1 => xs.length ≤ sizeLine ∧ Q (.tup xs) s1 := rfl
@[simp] theorem r_lst : dLst tr env s Q = tr env s fun xs s1 => xs.length ≤ sizeLine ∧ Q (.lst xs) s1 := rfl
@[simp] theorem r_new : dNew tr env s Q = tr env s fun xs s1 => xs.length ≤ sizeLine ∧ Q (.ref s1.length) (s1 ++ [some (.lst xs)]) := rfl
@[simp] theorem r_frz : dFrz ta env s Q = ta env s fun x s1 => ∃ l xs, x = .ref l ∧ s1[l]? = some (some (.lst xs)) ∧ Q (.lst xs) (s1.set l none) := rfl
@[simp] theorem r_call {sp : SpD} {dds : List D} : dCall sp dds tr env s Q = tr env s fun xs s1 => sp (xs ++ dds) s1 Q fun _ _ _ => False := rfl
@[simp] theorem r_mt {f : List D → List D → Option (D × List D)} : dMt f ta tr env s Q = ta env s fun o s1 => ∃ l ds0, o = .ref l ∧ s1[l]? = some (some (.lst ds0)) ∧ tr env s1 fun xs s2 => ∃ ds z ds', s2[l]? = some (some (.lst ds)) ∧ f ds xs = some (z, ds') ∧ Q z (s2.set l (some (.lst ds'))) := rfl
@[simp] theorem r_join : dJoin ta tb env s Q = ta env s fun o s1 => ∃ a, o = .str a ∧ tb env s1 fun x s2 => ∃ ds ys, seqA s2 x = some ds ∧ strsOf ds = some ys ∧ (ys.map (·.length)).sum + ys.length * a.length ≤ 16777216 ∧ Q (.str (Txt.join a ys)) s2 := rfl
@[simp] theorem r_next : dNext E env s = E.nx env s := rfl
@[simp] theorem r_seq : dSeq S S' E env s = S { E with nx := S' E } env s := rfl
@[simp] theorem r_ret : dRet ta E env s = ta env s E.rt := rfl
@[simp] theorem r_retN : dRetN E env s = E.rt .non s := rfl
@[simp] theorem r_drop : dDrop ta E env s = ta env s fun _ s1 => E.nx env s1 := rfl
@[simp] theorem r_if : dIfS c S S' E env s = c env s fun b s1 => if b = true then S E env s1 else S' E env s1 := rfl
@[simp] theorem r_asg {g : GD} : dAsg ta g E env s = ta env s fun d s1 => g d env s1 E.nx := rfl
@[simp] theorem r_gN {P : En → Sto → Prop} : gN i d env s P = P (env.set i (some d)) s := rfl
@[simp] theorem r_gTs {is : List Nat} {P : En → Sto → Prop} : gTs is d env s P = ∃ ds, d = .tup ds ∧ ds.length = is.length ∧ P (setE env is ds) s := rfl
@[simp] theorem r_gIx {P : En → Sto → Prop} : gIx ta tb d env s P = ta env s fun o s1 => tb env s1 fun i s2 => ∃ l xs k j, o = .ref l ∧ i = .int k ∧ s2[l]? = some (some (.lst xs)) ∧ ixN xs.length k = some j ∧ P env (s2.set l (some (.lst (xs.set j d)))) := rfl
@[simp] theorem r_aug {o : O2} : dAug i o ta E env s = ∃ x, env[i]? = some (some x) ∧ ta env s fun y s1 => o x y s1 fun z s2 => E.nx (env.set i (some z)) s2 := rfl
@[simp] theorem r_sl {tl th : OD} : dSl ta tl th env s Q = ta env s fun x s1 => tl env s1 fun lo s2 => th env s2 fun hi s3 => ∃ z, sliceF s3 x lo hi = some z ∧ Q z s3 := rfl
@[simp] theorem r_noP {P : Option Int → Sto → Prop} : dNoP env s P = P none s := rfl
@[simp] theorem r_p {P : Option Int → Sto → Prop} : dP ta env s P = ta env s fun x s1 => ∃ i, x = .int i ∧ P (some i) s1 := rfl
@[simp] theorem r_endsN {Q : D → Sto → Prop} : (endsOf Q).nx env s = Q .non s := rfl
@[simp] theorem r_endsR {Q : D → Sto → Prop} : (endsOf Q).rt = Q := rfl
@[simp] theorem r_setE0 {is : List Nat} : setE env is [] = env := by cases is <;> rfl
@[simp] theorem r_setE1 {is : List Nat} {ds : List D} : setE env (i :: is) (d :: ds) = setE (env.set i (some d)) is ds := rfl
end
end Dl
set_option Elab.async false
set_option linter.all false
set_option autoImplicit false
set_option maxRecDepth 100000
set_option maxHeartbeats 4000000
namespace Dl
open PySem PySem.Spec PyProof.Rows L2
section
variable {g : Sto → Prop} {tg : GD} {tt : TD} {te : ED} {env : En}
/-- a comprehension that changes nothing -/
theorem lcD_pure (p : D → Bool) (f : D → D) : ∀ {ds : List D} {s : Sto} {Q : List D → Sto → Prop}, g s →
    (∀ d ∈ ds, ∀ (k1 : D → Sto → Prop) (k0 : Sto → Prop), (p d = true → k1 (f d) s) → (p d = false → k0 s) → tg d env s fun env1 s1 => tt env1 s1 fun b s2 => if b = true then te env1 s2 k1 else k0 s2) →
    Q ((ds.filter p).map f) s → lcD g tg tt te env ds s Q
  | [], s, Q, hg, _, q => ⟨hg, q⟩
  | d :: ds, s, Q, hg, h, q => ⟨hg, h d List.mem_cons_self _ _ (fun hp => lcD_pure p f hg (fun d' hd' => h d' (List.mem_cons_of_mem _ hd')) (by rw [List.filter_cons, if_pos hp] at q; exact q))
      fun hp => lcD_pure p f hg (fun d' hd' => h d' (List.mem_cons_of_mem _ hd')) (by rw [List.filter_cons, if_neg (by rw [hp]; exact Bool.false_ne_true)] at q; exact q)⟩
/-- a comprehension, by a property of what is left and what is made -/
theorem lcD_run (I : List D → List D → Sto → Prop)
    (step : ∀ d rest acc s, I (d :: rest) acc s → ∀ (k1 : D → Sto → Prop) (k0 : Sto → Prop), (∀ y s', I rest (acc ++ [y]) s' → k1 y s') → (∀ s', I rest acc s' → k0 s') →
      g s ∧ tg d env s fun env1 s1 => tt env1 s1 fun b s2 => if b = true then te env1 s2 k1 else k0 s2) : ∀ {ds acc : List D} {s : Sto} {Q : List D → Sto → Prop}, I ds acc s → (∀ ys s', I [] (acc ++ ys) s' → g s' ∧ Q ys s') → lcD g tg tt te env ds s Q
  | [], acc, s, Q, h, done => done [] s (by rw [List.append_nil]; exact h)
  | d :: ds, acc, s, Q, h, done => step d ds acc s h _ _ (fun y s' h' => lcD_run I step h' fun ys s4 h4 => by
      have := done (y :: ys) s4 (by rw [List.append_assoc] at h4; exact h4)
      exact this) fun s' h' => lcD_run I step h' done
/-- a loop, by a property of what is left -/
theorem forD_run {tb : SD} {E : EndsD} (I : List D → En → Sto → Prop)
    (step : ∀ d rest env s, I (d :: rest) env s → ∀ (N : En → Sto → Prop), (∀ e s', I rest e s' → N e s') → g s ∧ tg d env s fun env1 s1 => tb ⟨N, E.rt, E.nx, N⟩ env1 s1)
    (done : ∀ env s, I [] env s → g s ∧ E.nx env s) : ∀ {ds : List D} {env : En} {s : Sto}, I ds env s → forD g tg tb E ds env s
  | [], env, s, h => done env s h
  | d :: ds, env, s, h => step d ds env s h _ fun e s' h' => forD_run I step done h'
end
theorem le_line {n : Nat} (h : n ≤ 1000000) : n ≤ sizeLine := Nat.le_trans h (by rw [sizeLine_eq]; decide)
theorem ll {n : Nat} (h : Nat.ble n 1000 = true := by rfl) : n ≤ sizeLine := le_line (Nat.le_trans (Nat.le_of_ble_eq_true h) (by decide))
theorem adds {s : Sto} {a b : Str} (h : a.length + b.length ≤ sizeLine) : addF s (.str a) (.str b) = some (.str (a ++ b)) := by
  show (if a.length + b.length ≤ sizeLine then _ else _) = _
  rw [if_pos h]
theorem ixN_in {n : Nat} {i : Int} (h0 : 0 ≤ i) (h1 : i < n) : ixN n i = some i.toNat := by
  unfold ixN
  rw [if_pos h0, if_pos h1]
theorem atI_in {α : Type} {xs : List α} {i : Int} (h0 : 0 ≤ i) (h1 : i < xs.length) : atI xs i = xs[i.toNat]? := by
  unfold atI
  rw [ixN_in h0 h1]
  rfl
theorem atI_mem {α : Type} {xs : List α} {i : Int} (h0 : 0 ≤ i) (h1 : i < xs.length) : ∃ x, atI xs i = some x ∧ x ∈ xs := by
  have h : i.toNat < xs.length := by omega
  exact ⟨xs[i.toNat], by rw [atI_in h0 h1]; exact List.getElem?_eq_getElem h, List.getElem_mem h⟩
@[simp] theorem sIx_n (n d : Nat) : HT.sIx n d none = d := rfl
theorem sIx_some {n d : Nat} {i : Int} (h : 0 ≤ i) : HT.sIx n d (some i) = min i.toNat n := by
  obtain ⟨k, rfl⟩ : ∃ k : Nat, i = (k : Int) := ⟨i.toNat, by omega⟩
  rw [HT.sIx_nat]
  rfl
theorem cutD_to {α : Type} {xs : List α} {i : Int} (h : 0 ≤ i) : cutD xs none (some i) = xs.take i.toNat := by
  unfold cutD
  rw [sIx_n, sIx_some h, List.drop_zero, Nat.sub_zero]
  rw [Nat.min_def]
  split
  · rfl
  · rw [List.take_of_length_le (Nat.le_refl _), List.take_of_length_le (by omega)]
theorem cutD_from {α : Type} {xs : List α} {i : Int} (h : 0 ≤ i) : cutD xs (some i) none = xs.drop i.toNat := by
  unfold cutD
  rw [sIx_n, sIx_some h]
  by_cases hi : i.toNat ≤ xs.length
  · rw [Nat.min_eq_left hi, List.take_of_length_le (by rw [List.length_drop]; omega)]
  · rw [Nat.min_eq_right (by omega), List.drop_of_length_le (Nat.le_refl _), List.drop_of_length_le (by omega)]
    simp
theorem cutD_mid {α : Type} {xs : List α} {i j : Int} (h : 0 ≤ i) (hj : 0 ≤ j) : cutD xs (some i) (some j) = (xs.take j.toNat).drop i.toNat := by
  unfold cutD
  rw [sIx_some h, sIx_some hj, List.drop_take]
  by_cases hi : i.toNat ≤ xs.length
  · rw [Nat.min_eq_left hi]
    by_cases h2 : j.toNat ≤ xs.length
    · rw [Nat.min_eq_left h2]
    · rw [Nat.min_eq_right (by omega)]
      rw [List.take_of_length_le (by rw [List.length_drop]; omega), List.take_of_length_le (by rw [List.length_drop]; omega)]
  · rw [Nat.min_eq_right (a := i.toNat) (b := xs.length) (by omega), List.drop_of_length_le (Nat.le_refl _), List.drop_of_length_le (i := i.toNat) (by omega)]
    simp
def big : Nat := 2 ^ 200
mutual
/-- plain data: each text, list, tuple at most n long, each int at most big + n -/
def szB (n : Nat) : D → Bool
  | .non => true
  | .bl _ => true
  | .int i => decide (i.natAbs ≤ big + n)
  | .str a => decide (a.length ≤ n)
  | .tup xs => decide (xs.length ≤ n) && szL n xs
  | .lst xs => decide (xs.length ≤ n) && szL n xs
  | .frl _ => false
  | .dk _ _ => true
  | .dt _ _ => true
  | .ref _ => false
  | .exc _ _ _ => false
def szL (n : Nat) : List D → Bool
  | [] => true
  | x :: xs => szB n x && szL n xs
end
theorem szL_iff {n : Nat} : ∀ {xs : List D}, szL n xs = true ↔ ∀ x ∈ xs, szB n x = true
  | [] => by simp [szL]
  | x :: xs => by
    rw [szL, Bool.and_eq_true, szL_iff (xs := xs)]
    simp
@[simp] theorem sz_tup {n : Nat} {xs : List D} : szB n (.tup xs) = true ↔ xs.length ≤ n ∧ ∀ x ∈ xs, szB n x = true := by rw [szB, Bool.and_eq_true, szL_iff, decide_eq_true_iff]
@[simp] theorem sz_lst {n : Nat} {xs : List D} : szB n (.lst xs) = true ↔ xs.length ≤ n ∧ ∀ x ∈ xs, szB n x = true := by rw [szB, Bool.and_eq_true, szL_iff, decide_eq_true_iff]
@[simp] theorem sz_str {n : Nat} {a : Str} : szB n (.str a) = true ↔ a.length ≤ n := by rw [szB, decide_eq_true_iff]
@[simp] theorem sz_int {n : Nat} {i : Int} : szB n (.int i) = true ↔ i.natAbs ≤ big + n := by rw [szB, decide_eq_true_iff]
@[simp] theorem sz_non {n : Nat} : szB n .non = true := rfl
@[simp] theorem sz_bl {n : Nat} {b : Bool} : szB n (.bl b) = true := rfl
@[simp] theorem sz_dk {n : Nat} {ks : List Key} {xs : List D} : szB n (.dk ks xs) = true := rfl
@[simp] theorem sz_frl {n : Nat} {xs : List D} : szB n (.frl xs) = false := rfl
@[simp] theorem sz_ref {n : Nat} {l : Nat} : szB n (.ref l) = false := rfl
mutual
theorem szB_mono {n m : Nat} (h : n ≤ m) : ∀ (x : D), szB n x = true → szB m x = true
  | .non, _ => rfl
  | .bl _, _ => rfl
  | .int i, q => by rw [sz_int] at q ⊢; omega
  | .str a, q => by rw [sz_str] at q ⊢; omega
  | .tup xs, q => by
    rw [szB, Bool.and_eq_true, decide_eq_true_iff] at q ⊢
    exact ⟨by omega, szL_mono h xs q.2⟩
  | .lst xs, q => by
    rw [szB, Bool.and_eq_true, decide_eq_true_iff] at q ⊢
    exact ⟨by omega, szL_mono h xs q.2⟩
  | .frl _, q => by cases q
  | .dk _ _, _ => rfl
  | .dt _ _, _ => rfl
  | .ref _, q => by cases q
  | .exc _ _ _, q => by cases q
theorem szL_mono {n m : Nat} (h : n ≤ m) : ∀ (xs : List D), szL n xs = true → szL m xs = true
  | [], _ => rfl
  | x :: xs, q => by
    rw [szL, Bool.and_eq_true] at q ⊢
    exact ⟨szB_mono h x q.1, szL_mono h xs q.2⟩
end
theorem powOk_of {a : Int} {j : Int} {m : Nat} (ha : Builtin.Int.intBits a ≤ m) (h2 : 2 ≤ j) (h : (m : Int) * j ≤ 134217728) : PowOk a j := ⟨h2, Int.le_trans (Int.mul_le_mul_of_nonneg_right (by exact_mod_cast ha) (by omega)) h⟩
theorem divOk_of {i j : Int} (h : 0 < j) (h2 : j < 2 ^ 200) : DivOk i j := by
  refine ⟨h, ?_⟩
  have : j.natAbs < 2 ^ 200 := by omega
  have := (Nat.log2_lt (by omega : j.natAbs ≠ 0)).mpr this
  omega
end Dl
namespace Dl
open PySem PySem.Spec PyProof.Rows L2
section
variable {s : Sto}
@[simp] theorem ty_non : tyName s .non = some "NoneType" := rfl
@[simp] theorem ty_bl {b : Bool} : tyName s (.bl b) = some "bool" := rfl
@[simp] theorem ty_int {i : Int} : tyName s (.int i) = some "int" := rfl
@[simp] theorem ty_str {a : Str} : tyName s (.str a) = some "str" := rfl
@[simp] theorem ty_tup {xs : List D} : tyName s (.tup xs) = some "tuple" := rfl
@[simp] theorem ty_lst {xs : List D} : tyName s (.lst xs) = some "list" := rfl
@[simp] theorem ty_dk {ks : List Key} {xs : List D} : tyName s (.dk ks xs) = some "dict" := rfl
@[simp] theorem ty_dt {ks : List (List Key)} {xs : List D} : tyName s (.dt ks xs) = some "dict" := rfl
@[simp] theorem sz_dt {n : Nat} {ks : List (List Key)} {xs : List D} : szB n (.dt ks xs) = true := rfl
@[simp] theorem lt_ii {i j : Int} : ltF s (.int i) (.int j) = some (.bl (decide (i < j))) := rfl
@[simp] theorem le_ii {i j : Int} : leF s (.int i) (.int j) = some (.bl (decide (i ≤ j))) := rfl
@[simp] theorem gt_ii {i j : Int} : gtF s (.int i) (.int j) = some (.bl (decide (j < i))) := rfl
@[simp] theorem ge_ii {i j : Int} : geF s (.int i) (.int j) = some (.bl (decide (j ≤ i))) := rfl
@[simp] theorem gtB_ii {i j : Int} : gtBF s (.int i) (.int j) = some (.bl (decide (j < i))) := rfl
@[simp] theorem gtB_bi {k : Bool} {j : Int} : gtBF s (.bl k) (.int j) = some (.bl (decide (j < b2n k))) := rfl
@[simp] theorem add_ii {i j : Int} : addF s (.int i) (.int j) = some (.int (i + j)) := rfl
@[simp] theorem add_bi {k : Bool} {j : Int} : addF s (.bl k) (.int j) = some (.int (b2n k + j)) := rfl
@[simp] theorem add_ib {k : Bool} {j : Int} : addF s (.int j) (.bl k) = some (.int (j + b2n k)) := rfl
@[simp] theorem add_ss {a b : Str} : addF s (.str a) (.str b) = if a.length + b.length ≤ sizeLine then some (.str (a ++ b)) else none := rfl
@[simp] theorem add_tt {a b : List D} : addF s (.tup a) (.tup b) = if a.length + b.length ≤ sizeLine then some (.tup (a ++ b)) else none := rfl
@[simp] theorem add_ll {a b : List D} : addF s (.lst a) (.lst b) = if a.length + b.length ≤ sizeLine then some (.lst (a ++ b)) else none := rfl
@[simp] theorem sub_ii {i j : Int} : subF s (.int i) (.int j) = some (.int (i - j)) := rfl
@[simp] theorem sub_bi {k : Bool} {j : Int} : subF s (.bl k) (.int j) = some (.int (b2n k - j)) := rfl
@[simp] theorem sub_ib {k : Bool} {j : Int} : subF s (.int j) (.bl k) = some (.int (j - b2n k)) := rfl
@[simp] theorem neg_i {i : Int} : negF s (.int i) = some (.int (-i)) := rfl
@[simp] theorem idx_t {xs : List D} {i : Int} : idxF s (.tup xs) (.int i) = atI xs i := rfl
@[simp] theorem idx_l {xs : List D} {i : Int} : idxF s (.lst xs) (.int i) = atI xs i := rfl
@[simp] theorem idx_f {xs : List D} {i : Int} : idxF s (.frl xs) (.int i) = atI xs i := rfl
@[simp] theorem idx_s {z : Str} {i : Int} : idxF s (.str z) (.int i) = (atI z.cps.toList i).map fun c => .str ⟨#[c]⟩ := rfl
theorem idx_r {l : Nat} {xs : List D} {i : Int} (h : s[l]? = some (some (.lst xs))) : idxF s (.ref l) (.int i) = atI xs i := by
  show (match seqL s (.ref l) with | some xs => atI xs i | none => none) = _
  rw [seqL_ref h]
@[simp] theorem len_s {z : Str} : lenF s [.str z] = some (.int z.length) := rfl
@[simp] theorem len_t {xs : List D} : lenF s [.tup xs] = some (.int xs.length) := rfl
@[simp] theorem len_l {xs : List D} : lenF s [.lst xs] = some (.int xs.length) := rfl
@[simp] theorem len_f {xs : List D} : lenF s [.frl xs] = some (.int xs.length) := rfl
@[simp] theorem len_dk {ks : List Key} {xs : List D} : lenF s [.dk ks xs] = some (.int ks.length) := rfl
@[simp] theorem len_dt {ks : List (List Key)} {xs : List D} : lenF s [.dt ks xs] = some (.int ks.length) := rfl
@[simp] theorem min_ii {i j : Int} : min2F s [.int i, .int j] = some (.int (if j < i then j else i)) := rfl
@[simp] theorem max_ii {i j : Int} : max2F s [.int i, .int j] = some (.int (if j > i then j else i)) := rfl
@[simp] theorem int_i {i : Int} : intF s [.int i] = some (.int i) := rfl
@[simp] theorem int_b {k : Bool} : intF s [.bl k] = some (.int (b2n k)) := rfl
@[simp] theorem abs_i {i : Int} : absF s [.int i] = some (.int (if i < 0 then -i else i)) := rfl
@[simp] theorem all_l {bs : List Bool} : allF s [.lst (bs.map D.bl)] = some (.bl (bs.all id)) := by
  show (match seqL s (.lst (bs.map D.bl)) with | some ds => (blsOf ds).map fun (bs : List Bool) => D.bl (bs.all id) | none => none) = _
  rw [seqL_lst]
  show (blsOf (bs.map D.bl)).map _ = _
  rw [blsOf_map]
  rfl
@[simp] theorem list_t {xs : List D} : listF s [.tup xs] = some (.lst xs) := rfl
@[simp] theorem list_l {xs : List D} : listF s [.lst xs] = some (.lst xs) := rfl
@[simp] theorem tuple_t {xs : List D} : tupleF s [.tup xs] = some (.tup xs) := rfl
@[simp] theorem tuple_l {xs : List D} : tupleF s [.lst xs] = some (.tup xs) := rfl
@[simp] theorem seqA_t {xs : List D} : seqA s (.tup xs) = some xs := rfl
@[simp] theorem seqA_l {xs : List D} : seqA s (.lst xs) = some xs := rfl
@[simp] theorem rev_t {xs : List D} : revF s (.tup xs) = some (.tup xs.reverse) := rfl
@[simp] theorem rev_l {xs : List D} : revF s (.lst xs) = some (.lst xs.reverse) := rfl
@[simp] theorem slice_t {xs : List D} {i j : Option Int} : sliceF s (.tup xs) i j = some (.tup (cutD xs i j)) := rfl
@[simp] theorem slice_l {xs : List D} {i j : Option Int} : sliceF s (.lst xs) i j = some (.lst (cutD xs i j)) := rfl
@[simp] theorem slice_f {xs : List D} {i j : Option Int} : sliceF s (.frl xs) i j = some (.lst (cutD xs i j)) := rfl
@[simp] theorem slice_s {z : Str} {i j : Option Int} : sliceF s (.str z) i j = some (.str ⟨(cutD z.cps.toList i j).toArray⟩) := rfl
@[simp] theorem str_i {i : Int} : strF s [.int i] = if i.natAbs.log2 < 1920 then some (.str (toString i)) else none := rfl
@[simp] theorem str_b {b : Bool} : strF s [.bl b] = some (.str (if b then "True" else "False")) := rfl
@[simp] theorem b2n_t : b2n true = 1 := rfl
@[simp] theorem b2n_f : b2n false = 0 := rfl
@[simp] theorem drf_non : drf s .non = .non := rfl
@[simp] theorem drf_bl {b : Bool} : drf s (.bl b) = .bl b := rfl
@[simp] theorem drf_int {i : Int} : drf s (.int i) = .int i := rfl
@[simp] theorem drf_str {z : Str} : drf s (.str z) = .str z := rfl
@[simp] theorem drf_tup {xs : List D} : drf s (.tup xs) = .tup xs := rfl
@[simp] theorem drf_lst {xs : List D} : drf s (.lst xs) = .lst xs := rfl
@[simp] theorem iIIc {c : Int → Int → Prop} {g : Int → Int → D} {i j : Int} {Q : D → Sto → Prop} : oIIc c g (.int i) (.int j) s Q = (c i j ∧ Q (g i j) s) := by
  apply propext
  constructor
  · rintro ⟨a, b, e1, e2, h⟩
    cases e1; cases e2
    exact h
  · intro h
    exact ⟨i, j, rfl, rfl, h⟩
theorem eq_ii {i j : Int} : eqF s (.int i) (.int j) = some (.bl (i == j)) := rfl
theorem ne_ii {i j : Int} : neF s (.int i) (.int j) = some (.bl (!(i == j))) := rfl
theorem eq_ss {i j : Str} : eqF s (.str i) (.str j) = some (.bl (i == j)) := rfl
theorem ne_ss {i j : Str} : neF s (.str i) (.str j) = some (.bl (!(i == j))) := rfl
theorem eq_l0 {xs : List D} : eqF s (.lst xs) (.lst []) = some (.bl (decide (xs = []))) := by
  cases xs <;> rfl
theorem ne_l0 {xs : List D} : neF s (.lst xs) (.lst []) = some (.bl (!decide (xs = []))) := by
  cases xs <;> rfl
end
section
/-- all the signs of a text in a row of signs -/
def sgnIn (r z : Str) : Bool := z.cps.toList.all fun c => decide (c ∈ r.cps.toList)
theorem signsD_mem {z : Str} {d : D} (h : d ∈ signsD z) : ∃ c, d = .str ⟨#[c]⟩ ∧ c ∈ z.cps.toList := by
  obtain ⟨c, hc, rfl⟩ := List.mem_map.mp h
  exact ⟨c, rfl, hc⟩
theorem signsD_length {z : Str} : (signsD z).length = z.length := by simp [signsD, Str.length]
def sgnOf : D → Nat
  | .str z => z.cps.getD 0 0
  | _ => 0
theorem all_signs {env : En} {s : Sto} {Q : D → Sto → Prop} {r z : Str} {i j : Nat} (hz : z.length ≤ sizeLine) (hi : env[i]? = some (some (.str z))) (hj : j < env.length) (q : Q (.bl (sgnIn r z)) s) :
    dCB allF (dCons (dLc (iW (dVar i)) (CT.g (.one j)) dYes (dBin (oOr (oInS id) (oIn id)) (dVar j) (dC (.str r))) [j]) dNil) env s Q := by
  refine ⟨_, hi, _, _, isW_str, by rw [signsD_length]; exact hz, ?_⟩
  refine lcD_pure (fun _ => true) (fun d => .bl (decide (sgnOf d ∈ r.cps.toList))) trivial (fun d hd k1 k0 h1 h0 => ?_) ?_
  · obtain ⟨c, rfl, hc⟩ := signsD_mem hd
    exact ⟨_, List.getElem?_set_self (by rw [wipeE_length]; exact hj), .inl ⟨c, r, rfl, rfl, h1 rfl⟩⟩
  · refine ⟨.bl (sgnIn r z), ?_, q⟩
    have e : ((signsD z).filter fun _ => true).map (fun d => D.bl (decide (sgnOf d ∈ r.cps.toList))) = (z.cps.toList.map fun c => decide (c ∈ r.cps.toList)).map D.bl := by
      rw [List.filter_eq_self.mpr (fun _ _ => rfl)]
      unfold signsD
      rw [List.map_map, List.map_map]
      rfl
    show allF s [.lst _] = _
    rw [e, all_l]
    unfold sgnIn
    rw [List.all_map]
    rfl
end
end Dl
set_option Elab.async false
set_option linter.all false
set_option autoImplicit false
set_option maxRecDepth 100000
set_option maxHeartbeats 4000000
namespace Dl
open PySem PySem.Spec PyProof.Rows L2
section
variable {κ α : Type} [DecidableEq κ]
/-- in its place, or at the end -/
def putP (es : List (κ × α)) (k : κ) (v : α) : List (κ × α) := if (es.any fun p => decide (p.1 = k)) = true then es.map (fun p => if p.1 = k then (p.1, v) else p) else es ++ [(k, v)]
def getP (es : List (κ × α)) (k : κ) : Option α := (es.find? fun p => decide (p.1 = k)).map (·.2)
theorem any_fst {β : Type} (k : κ) : ∀ {es : List (κ × α)} {fs : List (κ × β)}, es.map (·.1) = fs.map (·.1) → (es.any fun p => decide (p.1 = k)) = fs.any fun p => decide (p.1 = k)
  | [], [], _ => rfl
  | [], _ :: _, h => by cases h
  | _ :: _, [], h => by cases h
  | p :: es, q :: fs, h => by
    rw [List.map_cons, List.map_cons] at h
    injection h with h1 h2
    rw [List.any_cons, List.any_cons, h1, any_fst k h2]
end
def keyD1 : D → Option Key
  | .int i => some (.inl i)
  | .str z => some (.inr z)
  | _ => none
def keysL : List D → Option (List Key)
  | [] => some []
  | x :: xs => match keyD1 x, keysL xs with
    | some k, some ks => some (k :: ks)
    | _, _ => none
/-- what a dict holds, over data -/
structure RelP (K : PySem.W.Frag) (F : Hp) (A : List Addr) (ds : List (List Key × D)) (es : List (List Key × V)) : Prop where
  ks : es.map (·.1) = ds.map (·.1)
  vs : DatL K F A (ds.map (·.2)) (es.map (·.2))
section
variable {K : PySem.W.Frag} {F F' : Hp} {A A' : List Addr}
theorem key_rd {x : D} {v : V} {k : Key} (h : Dat K F A x v) (e : keyD1 x = some k) : v = kV k := by
  cases h <;> cases e <;> rfl
theorem keysL_rd : ∀ {xs : List D} {vs : List V} {ks : List Key}, DatL K F A xs vs → keysL xs = some ks → vs = ks.map kV
  | [], _, _, h, e => by cases h; cases e; rfl
  | x :: xs, _, _, h, e => by
    cases h with
    | cons h1 h2 =>
      unfold keysL at e
      split at e
      · rename_i k ks e1 e2
        cases e
        rw [key_rd h1 e1, keysL_rd h2 e2]
        rfl
      · cases e
/-- a tuple as a key: one part at least -/
def keysD : List D → Option (List Key)
  | [] => none
  | x :: xs => keysL (x :: xs)
theorem keys_rd : ∀ {xs : List D} {vs : List V} {ks : List Key}, DatL K F A xs vs → keysD xs = some ks → vs = ks.map kV
  | _ :: _, _, _, h, e => keysL_rd h e
theorem tp_key {xs : List D} {a : Addr} {ks : List Key} (t : TpF K F a (ks.map kV)) (h : DatL K F A xs (ks.map kV)) (e : keysD xs = some ks) : F a = some (.tup (ks.map kV)) := by
  rcases t.t with t | t | ⟨b, r, t⟩
  · exact t
  · exfalso
    rw [t] at h
    cases h
    cases e
  · exfalso
    cases ks with
    | nil => cases t
    | cons k ks =>
      have t1 := (List.cons.inj t).1
      cases k <;> cases t1
theorem RelP.mono {ds : List (List Key × D)} {es : List (List Key × V)} (h : RelP K F A ds es) (e : Same F F') (p : ∀ (l : Nat) (a : Addr), A[l]? = some a → A'[l]? = some a) : RelP K F' A' ds es := ⟨h.ks, h.vs.mono e p⟩
theorem RelP.len {ds : List (List Key × D)} {es : List (List Key × V)} (h : RelP K F A ds es) : es.length = ds.length := by
  have := congrArg List.length h.ks
  simpa using this
theorem put_map {x : D} {v : V} (hx : Dat K F A x v) (k : List Key) : ∀ {ds : List (List Key × D)} {es : List (List Key × V)}, es.map (·.1) = ds.map (·.1) → DatL K F A (ds.map (·.2)) (es.map (·.2)) →
    DatL K F A ((ds.map fun p => if p.1 = k then (p.1, x) else p).map (·.2)) ((es.map fun p => if p.1 = k then (p.1, v) else p).map (·.2)) ∧ (es.map fun p => if p.1 = k then (p.1, v) else p).map (·.1) = (ds.map fun p => if p.1 = k then (p.1, x) else p).map (·.1)
  | [], [], _, _ => ⟨.nil, rfl⟩
  | [], _ :: _, h, _ => by cases h
  | _ :: _, [], h, _ => by cases h
  | p :: ds, q :: es, h, d => by
    rw [List.map_cons, List.map_cons] at h
    injection h with h1 h2
    cases d with
    | cons d1 d2 =>
      obtain ⟨g1, g2⟩ := put_map hx k h2 d2
      by_cases e : p.1 = k
      · have e' : q.1 = k := h1.trans e
        simp only [List.map_cons, if_pos e, if_pos e'] at g1 g2 ⊢
        exact ⟨.cons hx g1, by rw [g2, e, e']⟩
      · have e' : ¬ q.1 = k := fun z => e (h1.symm.trans z)
        simp only [List.map_cons, if_neg e, if_neg e'] at g1 g2 ⊢
        exact ⟨.cons d1 g1, by rw [g2, h1]⟩
theorem RelP.put {ds : List (List Key × D)} {es : List (List Key × V)} {x : D} {v : V} (h : RelP K F A ds es) (k : List Key) (hx : Dat K F A x v) : RelP K F A (putP ds k x) (putK es k v) := by
  have e := any_fst k h.ks
  unfold putP putK
  rw [e]
  split
  · obtain ⟨g1, g2⟩ := put_map hx k h.ks h.vs
    exact ⟨g2, g1⟩
  · refine ⟨by rw [List.map_append, List.map_append, h.ks]; rfl, ?_⟩
    rw [List.map_append, List.map_append]
    exact h.vs.append (.cons hx .nil)
end
end Dl
set_option Elab.async false
set_option linter.all false
set_option autoImplicit false
set_option maxRecDepth 100000
set_option maxHeartbeats 4000000
namespace Dl
open PySem PySem.Spec PyProof.Rows L2
/-- a text's signs with their places, in new pairs -/
def Itn (z : Str) : It := ⟨fun i _ => i < z.cps.size, fun i H v H' => ∃ T c, v = .ref T ∧ H T = none ∧ H' = upd H T (.tup [.int (i : Nat), .str ⟨#[c]⟩]) ∧ z.cps[i]? = some c, fun i _ => z.cps.size ≤ i⟩
theorem draws_str {P : Program} {w : World} {A : Around} (hh : A.handled = none) (it : Addr) (z : Str) (t : Tok) {ty : String} (hty : ty = "str_ascii_iterator" ∨ ty = "str_iterator") :
    Draws P w A it [it] z.cps.size (fun i v => ∃ c u, z.cps[i]? = some c ∧ v = .str ⟨#[c]⟩ u) (fun i h => h.IsStrIter it ty z t i) := by
  rcases hty with rfl | rfl
  · exact .strAscii hh it z t
  · exact .strWide hh it z t
theorem turn_enumS {P : Program} {w : World} {K : PySem.W.Frag} {elts : List Expr} {kk : Nat} {tpos : Pos} (z : Str) (t : Tok) (e it : Addr) {ty : String} (hty : ty = "str_ascii_iterator" ∨ ty = "str_iterator") :
    Turn P w K (.Tuple elts kk tpos) (Itn z) [e, it] e (fun i h => i ≤ z.cps.size ∧ (∃ old, IsEnum h e it ((i : Nat) : Int) old) ∧ h.IsStrIter it ty z t i ∧ e ≠ it) where
  mem := by simp
  obj := fun i h ⟨_, ⟨old, he⟩, ⟨o, ho, hc, hd⟩, _⟩ b hb => by
    rcases List.mem_cons.mp hb with rfl | hb
    · exact ⟨_, he, fun v q => nomatch q⟩
    · rw [List.mem_singleton.mp hb]
      exact ⟨o, ho, fun v q => by rw [hd] at q; cases q⟩
  keep := fun i h h' ⟨hi, ⟨old, he⟩, ⟨o, ho, r⟩, ne⟩ k => ⟨hi, ⟨old, k e (by simp) _ he⟩, ⟨o, k it (by simp) _ ho, r⟩, ne⟩
  item := by
    intro X hP hw hK hc i ps s σ H E J hf st hg
    subst hP hw hK
    obtain ⟨hi, ⟨old, he⟩, hit, ne⟩ := st
    have le : e < s.heap.objs.size := Heap.lt_size he
    have li : it < s.heap.objs.size := let ⟨_, q, _⟩ := hit; Heap.lt_size q
    refine wpAny_pyNext_enum_itemD (draws_str (A := X.A.in1) (J.ok.hd hc) it z t hty) he hit hg ne (by simpa using ne) fun x h' tk hx ho hit' hT hsz hk => ?_
    obtain ⟨c, u, hcx, rfl⟩ := hx
    refine ⟨_, rfl, wpAny_letOwnedTupleGo_enum (s := { s with heap := h', toks := tk + 1 }) ho fun h2 he2 sb => ?_⟩
    have hT2 : h2.get? s.heap.objs.size = some { cls := .type "tuple", data := .seq #[.int i tk, .str ⟨#[c]⟩ u] } := (sb.2 _ (Nat.ne_of_gt le)).trans hT
    have new : ObjOk X.prog X.w (upd H s.heap.objs.size (.tup [.int (i : Nat), .str ⟨#[c]⟩])) h2 s.heap.objs.size (.tup [.int (i : Nat), .str ⟨#[c]⟩]) :=
      ⟨by show 2 ≤ sizeLine; decide, [.int i tk, .str ⟨#[c]⟩ u], .cons ⟨_, rfl⟩ (.cons ⟨_, rfl⟩ .nil), ⟨_, hT2, rfl, _, rfl⟩⟩
    have J1 : Inv X ps σ (upd H s.heap.objs.size (.tup [.int (i : Nat), .str ⟨#[c]⟩])) { s with heap := h2, toks := tk + 1 } :=
      J.turnedNew (ch := [e, it]) (fun b ob hb q => (sb.2 b fun y => hb (by simp [y])).trans (hk b ob (fun y => hb (by simp [y])) (fun y => hb (by simp [y])) q)) hf (Nat.le_refl _) new
    obtain ⟨oi, hoi, ri⟩ := hit'
    refine ⟨.ref s.heap.objs.size, _, J1, rfl, ⟨_, c, rfl, J.hok.fresh (Nat.le_refl _), rfl, hcx⟩, ⟨hg, ⟨_, by rw [show ((i + 1 : Nat) : Int) = (i : Int) + 1 by omega]; exact he2⟩, ⟨oi, (sb.2 it (Ne.symm ne)).trans hoi, ri⟩, ne⟩, fun b hb => ?_⟩
    have lb : b < s.heap.objs.size := by
      rcases List.mem_cons.mp hb with rfl | hb
      · exact le
      · rw [List.mem_singleton.mp hb]; exact li
    rw [upd_ne (Nat.ne_of_lt lb)]
    exact (hf b hb).1
  done := by
    intro X hP hw hK hc i ps s σ H E J hf st hg
    subst hP hw hK
    obtain ⟨hi, ⟨old, he⟩, hit, ne⟩ := st
    obtain ⟨f0, f1, f2, f3, f4, f5⟩ := hf it (by simp)
    have hg : z.cps.size ≤ i := hg
    obtain rfl : i = z.cps.size := Nat.le_antisymm hi hg
    exact wpAny_pyNext_enum_endD (draws_str (A := X.A.in1) (J.ok.hd hc) it z t hty) he hit fun h' eb => ⟨rfl, J.turned (t' := s.toks) (fun b o hb q => eb b o hb q) f0 f1 f3 f4 f5⟩
  self := fun A i s Q E ⟨_, ⟨_, he⟩, _⟩ h => wpAny_pyIter_enum he h
def iEnS (ta : TA) : TI := fun σ H R => ta σ H fun vs H1 => ∃ z, vs = [.str z] ∧ R (Itn z) H1
theorem pi_enumS {X : Cx} {e : Expr} {ta : TA} {p pos tpos : Pos} {elts : List Expr} {kk : Nat} (hg : Gl X "enumerate") (hm : X.mg "enumerate" = none) (ha : PA X [e] ta) (hs : starEach [e] X.env = [(false, eval e X.env)] := by rfl) :
    PI X (.Tuple elts kk tpos) (.Call (.Name "enumerate" p) [e] [] pos) (iEnS ta) := by
  refine ⟨fun ps s σ H R J h => Call_ (ld_blt J hg hm boot_enumerate (PyProof.Rows.callWith_type1 (thn (ha.run pos ps s σ H _ J h) fun us s1 ⟨vs, H1, J1, r1, z, ez, q⟩ => ?_) hs rfl))⟩
  subst ez
  obtain ⟨u, rfl, t, rfl⟩ := vals1 r1
  refine call_enumerate_str fun h' he hit hsz hk => wpAny_pyIter_enum he ?_
  have J2 : Inv X ps σ H1 { s1 with heap := h' } := J1.kept (t' := s1.toks) hk
  have hty : strIterType z = "str_ascii_iterator" ∨ strIterType z = "str_iterator" := by
    unfold strIterType
    split
    · exact .inl rfl
    · exact .inr rfl
  refine ⟨s1.heap.objs.size + 1, [s1.heap.objs.size + 1, s1.heap.objs.size], _, _, H1, rfl, J2, turn_enumS z t (s1.heap.objs.size + 1) s1.heap.objs.size hty, ⟨Nat.zero_le _, ⟨.none, he⟩, hit, Nat.succ_ne_self _⟩, fun b hb => ?_, q⟩
  have up : s1.heap.objs.size ≤ b := by
    rcases List.mem_cons.mp hb with rfl | hb
    · exact Nat.le_succ _
    · rw [List.mem_singleton.mp hb]; exact Nat.le_refl _
  exact J1.fpOk up (J1.hok.fresh up)
/-- places with signs -/
def placesD (z : Str) : List D := (List.range z.cps.size).map fun i => .tup [.int (i : Nat), .str ⟨#[z.cps.getD i 0]⟩]
theorem itok_enumS {K : PySem.W.Frag} {B : List Addr} {H : Hp} {A : List Addr} {s : Sto} {z : Str} : ItOk K B (Itn z) (placesD z) noG H A s := by
  intro B' H' A' s' R e p hg i
  have hlen : (placesD z).length = z.cps.size := by simp [placesD]
  refine ⟨fun d hi => ?_, fun hi => show z.cps.size ≤ i by rw [← hlen]; exact hi⟩
  have hn : i < z.cps.size := by
    have := (List.getElem?_eq_some_iff.mp hi).1
    rwa [hlen] at this
  have hd : d = .tup [.int (i : Nat), .str ⟨#[z.cps.getD i 0]⟩] := by
    simp [placesD, hn] at hi
    rw [← hi]
    simp [Array.getD, hn]
  refine ⟨hn, fun v H2 ⟨T, c, ev, hT, eH, hc⟩ => ?_⟩
  subst ev eH hd
  have ec : z.cps.getD i 0 = c := by
    have h1 : z.cps[i]? = some z.cps[i] := Array.getElem?_eq_getElem hn
    rw [h1] at hc
    simp [Array.getD, hn]
    exact Option.some.inj hc
  obtain ⟨r2, e2, f2⟩ := R.laid (o := .tup [.int (i : Nat), .str ⟨#[c]⟩]) hT
  refine ⟨r2, e2, .tup (.of f2) (.cons (.int _) (.cons ?_ .nil))⟩
  rw [ec]
  exact .str _ (by show 1 ≤ sizeLine; decide)
section
variable {pos p : Pos} {e tg : Expr} {te : ED}
def iEn (t : AD) : ID := fun env s R => t env s fun xs s1 => ∃ z, xs = [.str z] ∧ R (placesD z) noG s1
theorem mono_iEn {t : AD} (m : Mono t) : MonoI (iEn t) := fun _ _ _ _ f h => m _ _ _ _ (fun _ _ ⟨z, e, q⟩ => ⟨z, e, f _ _ _ q⟩) h
theorem pid_enum {X : DX} {t : AD} {tpos : Pos} {elts : List Expr} {kk : Nat} (hg : Gl X "enumerate") (hm : X.mg "enumerate" = none) (ha : PAD X [e] t) (hs : starEach [e] X.env = [(false, eval e X.env)] := by rfl) : PID X (.Tuple elts kk tpos) (.Call (.Name "enumerate" p) [e] [] pos) (iEn t) :=
  ⟨pi_imp (pi_enumS hg hm ha.pa hs) fun σ H R ⟨env, s, A, B, w, h⟩ => rdA_go ha.mono w h fun xs s1 vs H1 A1 ⟨z, ex, q⟩ w1 e1 dv => by
    subst ex
    obtain ⟨v, rfl, d⟩ := one_of dv
    cases d
    exact ⟨z, rfl, q _ _ _ w1.rs e1 itok_enumS⟩, mono_iEn ha.mono⟩
end
end Dl
set_option Elab.async false
set_option linter.all false
set_option autoImplicit false
set_option maxRecDepth 100000
set_option maxHeartbeats 4000000
namespace Bk
open PySem PySem.Spec PyProof.Rows L2 Dl
def isCnt : D → Bool
  | .int i => decide (0 ≤ i)
  | _ => false
def isSm : D → Bool
  | .str z => sgnIn "abcdefghijklmnopqrstuvwxyz" z
  | _ => false
def sgnF (r : Str) (most : Int) : D → Bool
  | .str z => sgnIn r z && (decide (1 ≤ (z.length : Int)) && decide ((z.length : Int) ≤ most))
  | _ => false
def isWd : D → Bool
  | .tup [a, b, c, d] => sgnF "abcdefghijklmnopqrstuvwxyz" 40 a && (sgnF "ABCDEFGHIJKLMNOPQRSTUVWXYZ" 12 b && (isCnt c && isCnt d))
  | _ => false
abbrev NN : Nat := 1000000
/-- told without a change -/
def tells (f : D → Bool) : SpD := fun ds s Q _ => ∃ x, ds = [x] ∧ szB NN x = true ∧ Q (.bl (f x)) s
theorem mono_tells {f : D → Bool} : MonoSp (tells f) := fun _ _ _ _ _ _ g _ ⟨x, h1, h2, q⟩ => ⟨x, h1, h2, g _ _ q⟩
theorem len_tells {f : D → Bool} {p : Str} : ∀ ds s Q E, tells f ds s Q E → ds.length = [p].length := fun _ _ _ _ ⟨x, h1, _⟩ => by rw [h1]; rfl
def sp_is_count : SpD := tells isCnt
def sp_is_small : SpD := tells isSm
def sp_is_reading : SpD := tells (sgnF "abcdefghijklmnopqrstuvwxyz" 40)
def sp_is_writing : SpD := tells (sgnF "ABCDEFGHIJKLMNOPQRSTUVWXYZ" 12)
theorem mono_is_count : MonoSp sp_is_count := mono_tells
theorem len_is_count : ∀ ds s Q E, sp_is_count ds s Q E → ds.length = ["thing"].length := len_tells (p := "thing")
theorem mono_is_small : MonoSp sp_is_small := mono_tells
theorem len_is_small : ∀ ds s Q E, sp_is_small ds s Q E → ds.length = ["thing"].length := len_tells (p := "thing")
theorem mono_is_reading : MonoSp sp_is_reading := mono_tells
theorem len_is_reading : ∀ ds s Q E, sp_is_reading ds s Q E → ds.length = ["thing"].length := len_tells (p := "thing")
theorem mono_is_writing : MonoSp sp_is_writing := mono_tells
theorem len_is_writing : ∀ ds s Q E, sp_is_writing ds s Q E → ds.length = ["thing"].length := len_tells (p := "thing")
def b_is_count : SD := (dRet (dAndV (dUn (isiF "int") (dVar 0)) (dAndV (dNotV (dUn (isiF "bool") (dVar 0))) (dBin (oF geF) (dVar 0) (dC (.int 0))))))
def b_is_small : SD := (dRet (dAndV (dUn (isiF "str") (dVar 0)) (dCB allF (dCons (dLc (iW (dVar 0)) (CT.g (.one 1)) dYes (dBin (oOr (oInS id) (oIn id)) (dVar 1) (dC (.str "abcdefghijklmnopqrstuvwxyz"))) [1]) dNil))))
def b_is_reading : SD := (dRet (dAndV (dCall sp_is_small [] (dCons (dVar 0) dNil)) (dChain (oF leF) (oF leF) (dC (.int 1)) (dCB lenF (dCons (dVar 0) dNil)) (dC (.int 40)))))
def b_is_writing : SD := (dRet (dAndV (dUn (isiF "str") (dVar 0)) (dAndV (dChain (oF leF) (oF leF) (dC (.int 1)) (dCB lenF (dCons (dVar 0) dNil)) (dC (.int 12))) (dCB allF (dCons (dLc (iW (dVar 0)) (CT.g (.one 1)) dYes (dBin (oOr (oInS id) (oIn id)) (dVar 1) (dC (.str "ABCDEFGHIJKLMNOPQRSTUVWXYZ"))) [1]) dNil)))))
theorem nn_line {z : Str} (h : szB NN (.str z) = true) : z.length ≤ sizeLine := by
  rw [sz_str] at h
  have : sizeLine = 16777216 := sizeLine_eq
  have : NN = 1000000 := rfl
  omega
theorem chain_len {env : En} {s : Sto} {Q : D → Sto → Prop} {i : Nat} {z : Str} {lo hi : Int} (h : env[i]? = some (some (.str z))) (q : Q (.bl (decide (lo ≤ (z.length : Int)) && decide ((z.length : Int) ≤ hi))) s) :
    dChain (oF leF) (oF leF) (dC (.int lo)) (dCB lenF (dCons (dVar i) dNil)) (dC (.int hi)) env s Q := by
  refine ⟨_, h, _, rfl, _, rfl, _, rfl, ?_⟩
  show if decide (lo ≤ (z.length : Int)) = true then _ else _
  by_cases c : lo ≤ (z.length : Int)
  · rw [if_pos (decide_eq_true c)]
    rw [decide_eq_true c, Bool.true_and] at q
    exact ⟨_, rfl, q⟩
  · rw [if_neg (by rw [decide_eq_false c]; exact Bool.false_ne_true)]
    rw [decide_eq_false c, Bool.false_and] at q
    exact q
/-- and, as a value, of what is told -/
theorem andV_bl {ta tb : ED} {env : En} {s : Sto} {Q : D → Sto → Prop} {a : Bool} {b : Bool} (ha : ∀ P : D → Sto → Prop, P (.bl a) s → ta env s P) (hb : a = true → ∀ P : D → Sto → Prop, P (.bl b) s → tb env s P) (q : Q (.bl (a && b)) s) : dAndV ta tb env s Q := by
  refine ha _ ⟨a, rfl, ?_⟩
  cases a with
  | true => rw [if_pos rfl]; exact hb rfl _ q
  | false => exact q
theorem orV_bl {ta tb : ED} {env : En} {s : Sto} {Q : D → Sto → Prop} {a : Bool} {b : Bool} (ha : ∀ P : D → Sto → Prop, P (.bl a) s → ta env s P) (hb : a = false → ∀ P : D → Sto → Prop, P (.bl b) s → tb env s P) (q : Q (.bl (a || b)) s) : dOrV ta tb env s Q := by
  refine ha _ ⟨a, rfl, ?_⟩
  cases a with
  | false => exact hb rfl _ q
  | true => exact q
section
variable (ds : List D) (s : Sto) (Q : D → Sto → Prop) (E : XD)
theorem pf_is_count (h : sp_is_count ds s Q E) : b_is_count (endsOf Q) (envD ["thing"] ds) s := by
  obtain ⟨x, rfl, hx, q⟩ := h
  cases x <;> simp_all [b_is_count, envD, isiF, isSub, isCnt, szB]
theorem pf_is_small (h : sp_is_small ds s Q E) : b_is_small (endsOf Q) (envD ["thing", "sign"] ds) s := by
  obtain ⟨x, rfl, hx, q⟩ := h
  cases x with
  | str z =>
    refine ⟨_, rfl, _, rfl, true, rfl, ?_⟩
    rw [if_pos rfl]
    exact all_signs (nn_line hx) rfl (Nat.lt_succ_self 1) q
  | frl _ => cases hx
  | ref _ => cases hx
  | exc _ _ _ => cases hx
  | _ => exact ⟨_, rfl, _, rfl, false, rfl, q⟩
theorem pf_is_reading (h : sp_is_reading ds s Q E) : b_is_reading (endsOf Q) (envD ["thing"] ds) s := by
  obtain ⟨x, rfl, hx, q⟩ := h
  cases x with
  | str z => exact andV_bl (fun P p => ⟨_, rfl, _, rfl, hx, p⟩) (fun _ P p => chain_len rfl p) q
  | frl _ => cases hx
  | ref _ => cases hx
  | exc _ _ _ => cases hx
  | _ => exact ⟨_, rfl, _, rfl, hx, false, rfl, q⟩
theorem pf_is_writing (h : sp_is_writing ds s Q E) : b_is_writing (endsOf Q) (envD ["thing", "sign"] ds) s := by
  obtain ⟨x, rfl, hx, q⟩ := h
  cases x with
  | str z =>
    refine andV_bl (a := true) (b := (decide (1 ≤ (z.length : Int)) && decide ((z.length : Int) ≤ 12)) && sgnIn "ABCDEFGHIJKLMNOPQRSTUVWXYZ" z) (fun P p => ⟨_, rfl, _, rfl, p⟩) (fun _ P p => andV_bl (fun P p => chain_len rfl p) (fun _ P p => all_signs (nn_line hx) rfl (Nat.lt_succ_self 1) p) p) ?_
    rw [Bool.true_and, Bool.and_comm]
    exact q
  | frl _ => cases hx
  | ref _ => cases hx
  | exc _ _ _ => cases hx
  | _ => exact ⟨_, rfl, _, rfl, false, rfl, q⟩
end
end Bk
set_option Elab.async false
set_option linter.all false
set_option autoImplicit false
set_option maxRecDepth 100000
set_option maxHeartbeats 4000000
namespace Fa
open PySem PySem.Spec PyProof.Rows L2 Dl Bk
/-- the store: the great numbers, the pot, the rest -/
abbrev P2 (xs : List Int) (st n : Int) (tl : Sto) : Sto := some (.lst (xs.map D.int)) :: some (.lst [.ref 0, .int st, .int n]) :: tl
def StT (b : Int) (tl s : Sto) : Prop := ∃ xs st n, s = P2 xs st n tl ∧ 0 ≤ st ∧ st < 618970019642690137449562111 ∧ 0 ≤ n ∧ n ≤ b
theorem StT.up {b c : Int} {tl s : Sto} (h : StT b tl s) (hc : b ≤ c) : StT c tl s := by
  obtain ⟨xs, st, n, h1, h2, h3, h4, h5⟩ := h
  exact ⟨xs, st, n, h1, h2, h3, h4, by omega⟩
end Fa
set_option Elab.async false
set_option linter.all false
set_option autoImplicit false
set_option maxRecDepth 100000
set_option maxHeartbeats 4000000
namespace Fa
open PySem PySem.Spec PyProof.Rows L2 Dl Bk
def strL (l : List Nat) : Str := ⟨l.toArray⟩
theorem cps_append (a b : Str) : (a ++ b).cps.toList = a.cps.toList ++ b.cps.toList := by
  show (a.cps ++ b.cps).toList = _
  exact Array.toList_append
theorem join_cps : ∀ ys : List Str, (Str.join "" ys).cps.toList = ys.flatMap (·.cps.toList)
  | [] => rfl
  | [x] => by simp [Str.join]
  | x :: y :: r => by
    have e : Str.join "" (x :: y :: r) = x ++ "" ++ Str.join "" (y :: r) := rfl
    rw [e, cps_append, cps_append, join_cps (y :: r)]
    have : (Str.ofString "").cps.toList = [] := rfl
    rw [this, List.append_nil]
    rfl
theorem txt_join_cps (ys : List Str) : (Txt.join "" ys).cps.toList = ys.flatMap (·.cps.toList) := by
  rw [show Txt.join "" ys = Str.join "" ys from PySem.StrLaws.glued_eq_join _ _, join_cps]
theorem txt_join_signs (cs : List Nat) : Txt.join "" (cs.map fun c => (⟨#[c]⟩ : Str)) = strL cs := by
  have h := txt_join_cps (cs.map fun c => (⟨#[c]⟩ : Str))
  have e : (cs.map fun c => (⟨#[c]⟩ : Str)).flatMap (·.cps.toList) = cs := by
    induction cs with
    | nil => rfl
    | cons c cs ih => rw [List.map_cons, List.flatMap_cons, ih (txt_join_cps _)]; rfl
  rw [e] at h
  cases hx : Txt.join "" (cs.map fun c => (⟨#[c]⟩ : Str)) with
  | mk a =>
    rw [hx] at h
    unfold strL
    congr 1
    apply Array.ext'
    rw [h]
theorem strL_length (l : List Nat) : (strL l).length = l.length := by simp [strL, Str.length]
theorem strL_cps (l : List Nat) : (strL l).cps.toList = l := rfl
theorem fapp {xs : List D} {y : D} (h : xs.length < sizeLine) : fAppend xs [y] = some (.non, xs ++ [y]) := by
  show (if xs.length < sizeLine then _ else _) = _
  rw [if_pos h]
section
variable (ds : List D) (s : Sto) (Q : D → Sto → Prop) (E : XD)
theorem powOk10 {j : Int} (h : 2 ≤ j) (h2 : j ≤ 1000000) : PowOk 10 j := powOk_of (m := 4) (by decide) h (by omega)
end
def sp__law_cost : SpD := fun ds s Q _ => ∃ b tl, ds = [.ref 1] ∧ StT b tl s ∧ b ≤ 100000000 ∧ ∀ i s', 0 ≤ i → i < 1000000000000 → StT (b + 10) tl s' → Q (.int i) s'
section
variable (ds : List D) (s : Sto) (Q : D → Sto → Prop) (E : XD)
theorem three {α : Type} {a b c : α} {i : Int} (h0 : 0 ≤ i) (h1 : i < 3) : ∃ x, atI [a, b, c] i = some x ∧ (x = a ∨ x = b ∨ x = c) := by
  obtain ⟨x, h, m⟩ := atI_mem (xs := [a, b, c]) h0 (by simpa using h1)
  exact ⟨x, h, by simpa using m⟩
end
end Fa
set_option Elab.async false
set_option linter.all false
set_option autoImplicit false
set_option maxRecDepth 100000
set_option maxHeartbeats 4000000
namespace Fa
open PySem PySem.Spec PyProof.Rows L2 Dl Bk
section
variable (ds : List D) (s : Sto) (Q : D → Sto → Prop) (E : XD)
theorem cut_mem {α : Type} {xs : List α} {i j : Option Int} {x : α} (h : x ∈ cutD xs i j) : x ∈ xs := List.mem_of_mem_drop (List.mem_of_mem_take h)
theorem two {α : Type} {a b : α} {i : Int} (h0 : 0 ≤ i) (h1 : i < 2) : ∃ x, atI [a, b] i = some x ∧ (x = a ∨ x = b) := by
  obtain ⟨x, h, m⟩ := atI_mem (xs := [a, b]) h0 (by simpa using h1)
  exact ⟨x, h, by simpa using m⟩
/-- sequences of a kind: cut and joined -/
structure Kd (α : Type) (c : List α → D) : Prop where
  hs : ∀ s xs i j, sliceF s (c xs) i j = some (c (cutD xs i j))
  ha : ∀ s a b, a.length + b.length ≤ sizeLine → addF s (c a) (c b) = some (c (a ++ b))
theorem strL_app (a b : List Nat) : strL a ++ strL b = strL (a ++ b) := by
  show (⟨a.toArray ++ b.toArray⟩ : Str) = ⟨(a ++ b).toArray⟩
  congr 1
  simp
theorem str_eq (z : Str) : z = strL z.cps.toList := by
  unfold strL
  simp
theorem ifT {A B : Prop} (h : A) : if true = true then A else B := h
theorem ifF {A B : Prop} (h : B) : if false = true then A else B := h
theorem ifD {c : Prop} [Decidable c] {A B : Prop} (ht : c → A) (hf : ¬ c → B) : if decide c = true then A else B := by
  by_cases h : c
  · rw [if_pos (decide_eq_true h)]; exact ht h
  · rw [if_neg (by rw [decide_eq_false h]; exact Bool.false_ne_true)]; exact hf h
theorem ifB {c : Bool} {A B : Prop} (ht : c = true → A) (hf : c = false → B) : if c = true then A else B := by
  cases c with
  | true => exact ht rfl
  | false => exact hf rfl
end
end Fa
set_option Elab.async false
set_option linter.all false
set_option autoImplicit false
set_option maxRecDepth 100000
set_option maxHeartbeats 4000000
namespace Fa
open PySem PySem.Spec PyProof.Rows L2 Dl Bk
end Fa
set_option Elab.async false
set_option linter.all false
set_option autoImplicit false
set_option maxRecDepth 100000
set_option maxHeartbeats 4000000
namespace Bk
open PySem PySem.Spec PyProof.Rows L2 Dl Fa
def rowOk (n : Nat) : D → Bool
  | .lst js => decide (js.length = n) && js.all isCnt
  | _ => false
end Bk
set_option Elab.async false
set_option linter.all false
set_option autoImplicit false
set_option maxRecDepth 100000
set_option maxHeartbeats 4000000
namespace Bk
open PySem PySem.Spec PyProof.Rows L2 Dl Fa
abbrev az : Str := "abcdefghijklmnopqrstuvwxyz"
abbrev AZ : Str := "ABCDEFGHIJKLMNOPQRSTUVWXYZ"
structure WordOk (K : Int) (r w : Str) (c k : Int) : Prop where
  r1 : sgnIn az r = true
  r2 : 1 ≤ r.length
  r3 : r.length ≤ 40
  w1 : sgnIn AZ w = true
  w2 : 1 ≤ w.length
  w3 : w.length ≤ 12
  c1 : 0 ≤ c
  c2 : c ≤ 1000000000000
  k1 : 0 ≤ k
  k2 : k < K
def IsW (K : Int) (x : D) : Prop := ∃ r w c k, x = .tup [.str r, .str w, .int c, .int k] ∧ WordOk K r w c k
def IsRow (n : Nat) (x : D) : Prop := ∃ js : List Int, x = .lst (js.map .int) ∧ js.length = n ∧ ∀ j ∈ js, 0 ≤ j ∧ j ≤ 1000000000000
theorem IsW.wd {K : Int} {x : D} (h : IsW K x) : isWd x = true := by
  obtain ⟨r, w, c, k, rfl, h⟩ := h
  show (sgnF _ 40 (.str r) && (sgnF _ 12 (.str w) && (isCnt (.int c) && isCnt (.int k)))) = true
  have e1 : sgnF az 40 (.str r) = true := by
    show (sgnIn az r && (decide (1 ≤ (r.length : Int)) && decide ((r.length : Int) ≤ 40))) = true
    rw [h.r1, decide_eq_true (by have := h.r2; omega), decide_eq_true (by have := h.r3; omega)]; rfl
  have e2 : sgnF AZ 12 (.str w) = true := by
    show (sgnIn AZ w && (decide (1 ≤ (w.length : Int)) && decide ((w.length : Int) ≤ 12))) = true
    rw [h.w1, decide_eq_true (by have := h.w2; omega), decide_eq_true (by have := h.w3; omega)]; rfl
  have e3 : isCnt (.int c) = true := decide_eq_true h.c1
  have e4 : isCnt (.int k) = true := decide_eq_true h.k1
  rw [e1, e2, e3, e4]; rfl
theorem IsRow.ok {n : Nat} {x : D} (h : IsRow n x) : rowOk n x = true := by
  obtain ⟨js, rfl, h1, h2⟩ := h
  show (decide ((js.map D.int).length = n) && (js.map D.int).all isCnt) = true
  rw [decide_eq_true (by rw [List.length_map]; exact h1), Bool.true_and, List.all_eq_true]
  intro y hy
  obtain ⟨j, hj, rfl⟩ := List.mem_map.mp hy
  exact decide_eq_true (h2 j hj).1
end Bk
set_option Elab.async false
set_option linter.all false
set_option autoImplicit false
set_option maxRecDepth 100000
set_option maxHeartbeats 4000000
namespace Fb
open PySem PySem.Spec PyProof.Rows L2 Dl Bk
open Fa (ifD ifB ifT ifF two three powOk10 fapp strL strL_length strL_cps txt_join_signs)
/-- the pot stands at p -/
def Ps (c : Int) (p : Nat) (s : Sto) : Prop := ∃ a b n : Int, s[p]? = some (some (.lst [.int a, .int b, .int n])) ∧ 0 ≤ b ∧ b < 10000000000000000000000000000000000000121 ∧ 0 ≤ n ∧ n ≤ c
/-- all but p stays -/
structure Kp (p : Nat) (s s' : Sto) : Prop where
  len : s.length ≤ s'.length
  at_ : ∀ l, l < s.length → l ≠ p → s'[l]? = s[l]?
theorem Ps.up {c d : Int} {p : Nat} {s : Sto} (h : Ps c p s) (hc : c ≤ d) : Ps d p s := by
  obtain ⟨a, b, n, h1, h2, h3, h4, h5⟩ := h
  exact ⟨a, b, n, h1, h2, h3, h4, by omega⟩
theorem Ps.lt {c : Int} {p : Nat} {s : Sto} (h : Ps c p s) : p < s.length := by
  obtain ⟨a, b, n, h1, _⟩ := h
  exact (List.getElem?_eq_some_iff.mp h1).1
theorem Kp.refl {p : Nat} {s : Sto} : Kp p s s := ⟨Nat.le_refl _, fun _ _ _ => rfl⟩
theorem Kp.trans {p : Nat} {s s1 s2 : Sto} (h : Kp p s s1) (g : Kp p s1 s2) : Kp p s s2 := ⟨Nat.le_trans h.len g.len, fun l hl hp => (g.at_ l (Nat.lt_of_lt_of_le hl h.len) hp).trans (h.at_ l hl hp)⟩
theorem Kp.set {p : Nat} {s : Sto} {o : Option MO} : Kp p s (s.set p o) := ⟨by simp, fun l _ hp => List.getElem?_set_ne (Ne.symm hp)⟩
theorem Kp.app {p : Nat} {s : Sto} {o : Option MO} : Kp p s (s ++ [o]) := ⟨by simp, fun l hl _ => List.getElem?_append_left hl⟩
theorem Kp.get {p l : Nat} {s s' : Sto} {o : Option MO} (h : Kp p s s') (hl : s[l]? = some o) (hp : l ≠ p) : s'[l]? = some o := (h.at_ l (List.getElem?_eq_some_iff.mp hl).1 hp).trans hl
theorem Ps.app {c : Int} {p : Nat} {s : Sto} {o : Option MO} (h : Ps c p s) : Ps c p (s ++ [o]) := by
  obtain ⟨a, b, n, h1, r⟩ := h
  exact ⟨a, b, n, by rw [List.getElem?_append_left (List.getElem?_eq_some_iff.mp h1).1]; exact h1, r⟩
theorem Ps.set {c : Int} {p l : Nat} {s : Sto} {o : Option MO} (h : Ps c p s) (hl : l ≠ p) : Ps c p (s.set l o) := by
  obtain ⟨a, b, n, h1, r⟩ := h
  exact ⟨a, b, n, by rw [List.getElem?_set_ne hl]; exact h1, r⟩
def sp__law_take : SpD := fun ds s Q _ => ∃ c p many, ds = [.ref p, .int many] ∧ Ps c p s ∧ c ≤ 1000000000 ∧ 1 ≤ many ∧ many ≤ 10000000000000 ∧ ∀ i s', 0 ≤ i → i < many → Ps (c + 1) p s' → Kp p s s' → s'.length = s.length → Q (.int i) s'
theorem mono__law_take : MonoSp sp__law_take := fun _ _ _ _ _ _ f _ ⟨c, p, many, h1, h2, h3, h4, h5, h⟩ => ⟨c, p, many, h1, h2, h3, h4, h5, fun i s' a1 a2 a3 a4 a5 => f _ _ (h i s' a1 a2 a3 a4 a5)⟩
theorem len__law_take : ∀ ds s Q E, sp__law_take ds s Q E → ds.length = ["pot", "many"].length := fun _ _ _ _ ⟨_, _, _, h, _⟩ => by rw [h]; rfl
def b__law_take : SD := (dSeq (dIfS (dTest (dBin (oF gtBF) (dBin (oF idxF) (dVar 0) (dC (.int 0))) (dC (.int 0)))) (dSeq (dAsg (dBin oMod (dBin (oF idxF) (dVar 0) (dC (.int 0))) (dVar 1)) (gN 3))
  (dSeq (dAsg (dBin oDiv (dBin (oF idxF) (dVar 0) (dC (.int 0))) (dVar 1)) (gIx (dVar 0) (dC (.int 0))))
  (dRet (dVar 3)))) dNext)
  (dSeq (dAsg (dBin (oF addF) (dBin (oF idxF) (dVar 0) (dC (.int 2))) (dC (.int 1))) (gIx (dVar 0) (dC (.int 2))))
  (dSeq (dAsg (dBin oMod (dBin oPow (dBin (oF addF) (dBin (oF idxF) (dVar 0) (dC (.int 1))) (dBin oMul (dC (.int 15485863)) (dBin (oF idxF) (dVar 0) (dC (.int 2))))) (dC (.int 3))) (dC (.int 162259276829213363391578010288127))) (gN 2))
  (dSeq (dAsg (dBin oMod (dBin oPow (dBin (oF addF) (dVar 2) (dBin oMul (dC (.int 32452843)) (dBin (oF idxF) (dVar 0) (dC (.int 2))))) (dC (.int 5))) (dC (.int 170141183460469231731687303715884105727))) (gN 2))
  (dRet (dBin oMod (dBin oDiv (dVar 2) (dC (.int 1048576))) (dVar 1)))))))
theorem app_last {s : Sto} {o : Option MO} : (s ++ [o])[s.length]? = some o := by simp
theorem ixr {s : Sto} {p : Nat} {xs : List D} {i : Int} {d : D} (h : s[p]? = some (some (.lst xs))) (e : atI xs i = some d) : idxF s (.ref p) (.int i) = some d := by rw [idx_r h, e]
section
variable (ds : List D) (s : Sto) (Q : D → Sto → Prop) (E : XD)
theorem pf__law_take (h : sp__law_take ds s Q E) : b__law_take (endsOf Q) (envD ["pot", "many", "mixed", "found"] ds) s := by
  obtain ⟨c, p, many, rfl, ⟨a, b, n, hp, b0, b1, n0, n1⟩, hc, m1, m2, q⟩ := h
  have lp : p < s.length := (List.getElem?_eq_some_iff.mp hp).1
  refine ⟨_, rfl, _, ixr hp rfl, _, rfl, _, rfl, ifD (fun ha => ?_) fun _ => ?_⟩
  · refine ⟨_, rfl, _, ixr hp rfl, _, rfl, _, _, rfl, rfl, (by omega : 0 < many), ?_⟩
    refine ⟨_, rfl, _, ixr hp rfl, _, rfl, _, _, rfl, rfl, divOk_of (by omega) (by omega), ?_⟩
    refine ⟨_, rfl, _, _, _, _, rfl, rfl, hp, rfl, ?_⟩
    exact ⟨_, rfl, q _ _ (Int.emod_nonneg _ (by omega)) (Int.emod_lt_of_pos _ (by omega)) ⟨a / many, b, n, List.getElem?_set_self lp, b0, b1, n0, by omega⟩ .set (by simp)⟩
  · refine ⟨_, rfl, _, ixr hp rfl, _, rfl, _, rfl, _, _, _, _, rfl, rfl, hp, rfl, ?_⟩
    have hp2 : (s.set p (some (.lst [.int a, .int b, .int (n + 1)])))[p]? = some (some (.lst [.int a, .int b, .int (n + 1)])) := List.getElem?_set_self lp
    refine ⟨_, rfl, _, ixr hp2 rfl, _, rfl, _, ixr hp2 rfl, .inl ⟨_, _, rfl, rfl, IntMulOk.of_left (by decide), _, rfl, ?_⟩⟩
    refine ⟨_, _, rfl, rfl, powOk_of (m := 140) (intBits_le_iff.mpr (by omega)) (by decide) (by decide), ?_⟩
    refine ⟨_, _, rfl, rfl, (show (0 : Int) < 162259276829213363391578010288127 by decide), ?_⟩
    have k0 := Int.emod_nonneg ((b + 15485863 * (n + 1)) ^ (3 : Int).toNat) (show (162259276829213363391578010288127 : Int) ≠ 0 by decide)
    have k1 := Int.emod_lt_of_pos ((b + 15485863 * (n + 1)) ^ (3 : Int).toNat) (show (0 : Int) < 162259276829213363391578010288127 by decide)
    refine ⟨_, rfl, _, rfl, _, ixr hp2 rfl, .inl ⟨_, _, rfl, rfl, IntMulOk.of_left (by decide), _, rfl, ?_⟩⟩
    refine ⟨_, _, rfl, rfl, powOk_of (m := 120) (intBits_le_iff.mpr (by omega)) (by decide) (by decide), ?_⟩
    refine ⟨_, _, rfl, rfl, (show (0 : Int) < 170141183460469231731687303715884105727 by decide), ?_⟩
    refine ⟨_, rfl, _, _, rfl, rfl, divOk_of (by decide) (by decide), ?_⟩
    refine ⟨_, rfl, _, _, rfl, rfl, (by omega : 0 < many), ?_⟩
    exact q _ _ (Int.emod_nonneg _ (by omega)) (Int.emod_lt_of_pos _ (by omega)) ⟨a, b, n + 1, hp2, b0, b1, by omega, by omega⟩ .set (by simp)
end
def sp__law_cost : SpD := fun ds s Q _ => ∃ c p way, ds = [.ref p, .int way] ∧ 0 ≤ way ∧ way < 6 ∧ Ps c p s ∧ c ≤ 100000000 ∧ ∀ i s', 0 ≤ i → i ≤ 1000000000000 → Ps (c + 4) p s' → Kp p s s' → s'.length = s.length → Q (.int i) s'
end Fb
set_option Elab.async false
set_option linter.all false
set_option autoImplicit false
set_option maxRecDepth 100000
set_option maxHeartbeats 4000000
namespace Dl
open PySem PySem.Spec PyProof.Rows L2
mutual
/-- a datum as the library shows data -/
def pyD : D → PyData
  | .bl b => .bool b
  | .int i => .int i
  | .str z => .str z
  | .tup xs => .tuple (pyL xs)
  | .lst xs => .list (pyL xs)
  | .frl xs => .list (pyL xs)
  | .non => .none
  | .dk _ _ => .none
  | .dt _ _ => .none
  | .ref _ => .none
  | .exc _ _ _ => .none
def pyL : List D → List PyData
  | [] => []
  | x :: xs => pyD x :: pyL xs
end
mutual
/-- lists and tuples of plain things alone -/
def seqs : D → Bool
  | .tup xs => seqsL xs
  | .lst xs => seqsL xs
  | .frl xs => seqsL xs
  | .dk _ _ => false
  | .dt _ _ => false
  | .ref _ => false
  | .exc _ _ _ => false
  | _ => true
def seqsL : List D → Bool
  | [] => true
  | x :: xs => seqs x && seqsL xs
end
mutual
/-- how large: signs and items -/
def wt : D → Nat
  | .str z => z.length
  | .tup xs => wtL xs
  | .lst xs => wtL xs
  | .frl xs => wtL xs
  | _ => 0
def wtL : List D → Nat
  | [] => 0
  | x :: xs => wt x + 1 + wtL xs
end
mutual
/-- plain things of ints below 10 ^ 40 and signs below 2 ^ 32 -/
def tame : D → Bool
  | .int i => decide (i.natAbs < 10 ^ 40)
  | .str z => z.cps.toList.all fun c => decide (c < 16 ^ 8)
  | .tup xs => tameL xs
  | .lst xs => tameL xs
  | .frl xs => tameL xs
  | .non => true
  | .bl _ => true
  | _ => false
def tameL : List D → Bool
  | [] => true
  | x :: xs => tame x && tameL xs
end
mutual
def deep : D → Nat
  | .tup xs => deepL xs + 1
  | .lst xs => deepL xs + 1
  | .frl xs => deepL xs + 1
  | _ => 0
def deepL : List D → Nat
  | [] => 0
  | x :: xs => max (deep x) (deepL xs)
end
theorem int_short {i : Int} (h : i.natAbs < 10 ^ 40) : (PyData.shown (.int i)).length ≤ 41 := by
  simp only [PyData.shown]
  have e : (Str.ofString (toString i)).length = (toString i).length := PySem.ofString_length _
  rw [e]
  exact int_text_length_le10 (by decide) h
mutual
theorem tame_of : ∀ x : D, tame x = true → (pyD x).leavesShort 41 = true ∧ (pyD x).showable = true ∧ seqs x = true
  | .tup xs, h => by simp only [pyD, PyData.leavesShort, PyData.showable, seqs]; exact tameL_of xs h
  | .lst xs, h => by simp only [pyD, PyData.leavesShort, PyData.showable, seqs]; exact tameL_of xs h
  | .frl xs, h => by simp only [pyD, PyData.leavesShort, PyData.showable, seqs]; exact tameL_of xs h
  | .str z, h => by simp only [pyD, PyData.leavesShort, PyData.showable, seqs]; exact ⟨h, by trivial⟩
  | .bl _, _ => by simp only [pyD, PyData.leavesShort, PyData.showable, seqs, and_self]
  | .int i, h => by
    have h' : i.natAbs < 10 ^ 40 := of_decide_eq_true h
    refine ⟨?_, ?_, rfl⟩
    · simp only [pyD, PyData.leavesShort]
      exact decide_eq_true (int_short h')
    · simp only [pyD, PyData.showable]
      refine decide_eq_true ?_
      by_cases z : i.natAbs = 0
      · rw [z]; decide
      · have := (Nat.log2_lt (k := 140) z).mpr (Nat.lt_of_lt_of_le h' (by decide)); omega
  | .non, _ => by simp only [pyD, PyData.leavesShort, PyData.showable, seqs, and_self]
  | .dk _ _, h => by cases h
  | .dt _ _, h => by cases h
  | .ref _, h => by cases h
  | .exc _ _ _, h => by cases h
theorem tameL_of : ∀ xs : List D, tameL xs = true → PyData.leavesShortAll 41 (pyL xs) = true ∧ PyData.showableAll (pyL xs) = true ∧ seqsL xs = true
  | [], _ => by simp only [pyL, PyData.leavesShortAll, PyData.showableAll, seqsL, and_self]
  | x :: xs, h => by
    have h' : (tame x && tameL xs) = true := h
    obtain ⟨p1, p2⟩ := Bool.and_eq_true_iff.mp h'
    obtain ⟨a1, a2, a3⟩ := tame_of x p1
    obtain ⟨b1, b2, b3⟩ := tameL_of xs p2
    simp only [pyL, PyData.leavesShortAll, PyData.showableAll, seqsL, a1, a2, a3, b1, b2, b3, Bool.and_self, and_self]
end
end Dl
set_option Elab.async false
set_option linter.all false
set_option autoImplicit false
set_option maxRecDepth 100000
set_option maxHeartbeats 4000000
namespace Dl
open PySem PySem.Spec PyProof.Rows L2
/-- how it is bound -/
structure KwB (K : PySem.W.Frag) (fd : FuncData) (ps : List Str) (b : Str) : Prop where
  off : ∃ ds, Vals [V.non] ds ∧ Binds K fd ps ds
  on : KBn K fd ps (ps.length - 1) [b] (fun us ws => us ++ ws) (fun vs zs => vs ++ zs)
/-- a def of the module that keeps its promise; its last parameter is asked by a keyword -/
def KnK (P : Program) (w : World) (K : PySem.W.Frag) (mg : Str → Option Value) (base : Heap) (x b : Str) (k : Nat) (ps : List Str) (sp : SpD) : Prop :=
  ∃ (f : Addr) (fd : FuncData), FnD P w K mg base CX0 k f fd ps sp ∧ mg x = some (.ref f) ∧ PySem.W.keepIn K (.ref f) = true ∧ KwB K fd ps b
def AtK (K : PySem.W.Frag) (mg : Str → Option Value) (x b : Str) (st : Stmt) (ps : List Str) : Prop :=
  ∃ (f : Addr) (fd : FuncData), Fun K x x st f fd ∧ mg x = some (.ref f) ∧ KwB K fd ps b
theorem KnK.mk {P : Program} {w : World} {K : PySem.W.Frag} {mg : Str → Option Value} {base : Heap} {x b : Str} {st : Stmt} {N ps : List Str} {k : Nat} {sp : SpD} {tb : SD} (a : AtK K mg x b st ps) (S : FnScope N ps (defScope st)) (mono : MonoSp sp)
    (len : ∀ ds s Q E, sp ds s Q E → ds.length = ps.length)
    (body : ∀ (f : Addr) (cdv : Value) (A : Around) (outer : List PySem.Env) (s : Shared) (H : Hp) (E : XK), RoomG k (A.deeper (envOfC x (defScope st) s.heap.objs.size f cdv)) → PSsD (dx0 (cxOf CX0 P w K mg base N x (defScope st) f cdv A outer s H E).nox) (defBody st) tb)
    (h : ∀ ds s Q E, sp ds s Q E → tb (endsOf Q) (envD N ds) s) : KnK P w K mg base x b (k + 1) ps sp := by
  obtain ⟨f, fd, F, hm, hb⟩ := a
  exact ⟨f, fd, fnD F S mono len (body f) h, hm, F.kp, hb⟩
end Dl
set_option Elab.async false
set_option linter.all false
set_option autoImplicit false
set_option maxRecDepth 100000
set_option maxHeartbeats 4000000
namespace Dl
open PySem PySem.Spec PyProof.Rows L2
section
variable {κ : Type} [DecidableEq κ] {K : PySem.W.Frag} {F F' : Hp} {A A' : List Addr}
structure RelG (K : PySem.W.Frag) (F : Hp) (A : List Addr) (ds : List (κ × D)) (es : List (κ × V)) : Prop where
  ks : es.map (·.1) = ds.map (·.1)
  vs : DatL K F A (ds.map (·.2)) (es.map (·.2))
theorem RelG.mono {ds : List (κ × D)} {es : List (κ × V)} (h : RelG K F A ds es) (e : Same F F') (p : ∀ (l : Nat) (a : Addr), A[l]? = some a → A'[l]? = some a) : RelG K F' A' ds es := ⟨h.ks, h.vs.mono e p⟩
theorem RelG.len {ds : List (κ × D)} {es : List (κ × V)} (h : RelG K F A ds es) : es.length = ds.length := by
  have := congrArg List.length h.ks
  simpa using this
theorem getP_cons {α : Type} {p : κ × α} {es : List (κ × α)} {k : κ} : getP (p :: es) k = if p.1 = k then some p.2 else getP es k := by
  unfold getP
  by_cases h : p.1 = k
  · rw [List.find?_cons_of_pos (by simpa using h), if_pos h]; rfl
  · rw [List.find?_cons_of_neg (by simpa using h), if_neg h]
theorem RelG.get (k : κ) : ∀ {ds : List (κ × D)} {es : List (κ × V)}, RelG K F A ds es → (getP ds k = none → valV es k = none) ∧ ∀ d, getP ds k = some d → ∃ v, valV es k = some v ∧ Dat K F A d v
  | [], [], _ => ⟨fun _ => rfl, fun d h => by cases h⟩
  | [], _ :: _, h => by cases h.ks
  | _ :: _, [], h => by cases h.ks
  | p :: ds, q :: es, h => by
    have h1 := h.ks
    rw [List.map_cons, List.map_cons] at h1
    injection h1 with e1 e2
    have h2 := h.vs
    rw [List.map_cons, List.map_cons] at h2
    cases h2 with
    | cons d1 d2 =>
      obtain ⟨g1, g2⟩ := RelG.get k (ds := ds) (es := es) ⟨e2, d2⟩
      rw [getP_cons]
      by_cases e : p.1 = k
      · rw [if_pos e, valV_pos (e1.trans e)]
        refine ⟨fun z => (nomatch z), fun d z => ?_⟩
        cases z
        exact ⟨_, rfl, d1⟩
      · rw [if_neg e, valV_neg (fun z => e (e1.symm.trans z))]
        exact ⟨g1, g2⟩
theorem put_mapG {x : D} {v : V} (hx : Dat K F A x v) (k : κ) : ∀ {ds : List (κ × D)} {es : List (κ × V)}, es.map (·.1) = ds.map (·.1) → DatL K F A (ds.map (·.2)) (es.map (·.2)) →
    DatL K F A ((ds.map fun p => if p.1 = k then (p.1, x) else p).map (·.2)) ((es.map fun p => if p.1 = k then (p.1, v) else p).map (·.2)) ∧ (es.map fun p => if p.1 = k then (p.1, v) else p).map (·.1) = (ds.map fun p => if p.1 = k then (p.1, x) else p).map (·.1)
  | [], [], _, _ => ⟨.nil, rfl⟩
  | [], _ :: _, h, _ => by cases h
  | _ :: _, [], h, _ => by cases h
  | p :: ds, q :: es, h, d => by
    rw [List.map_cons, List.map_cons] at h
    injection h with h1 h2
    cases d with
    | cons d1 d2 =>
      obtain ⟨g1, g2⟩ := put_mapG hx k h2 d2
      by_cases e : p.1 = k
      · have e' : q.1 = k := h1.trans e
        simp only [List.map_cons, if_pos e, if_pos e'] at g1 g2 ⊢
        exact ⟨.cons hx g1, by rw [g2, e, e']⟩
      · have e' : ¬ q.1 = k := fun z => e (h1.symm.trans z)
        simp only [List.map_cons, if_neg e, if_neg e'] at g1 g2 ⊢
        exact ⟨.cons d1 g1, by rw [g2, h1]⟩
theorem RelG.put {ds : List (κ × D)} {es : List (κ × V)} {x : D} {v : V} (h : RelG K F A ds es) (k : κ) (hx : Dat K F A x v) : RelG K F A (putP ds k x) (putK es k v) := by
  have e := any_fst k h.ks
  unfold putP putK
  rw [e]
  split
  · obtain ⟨g1, g2⟩ := put_mapG hx k h.ks h.vs
    exact ⟨g2, g1⟩
  · refine ⟨by rw [List.map_append, List.map_append, h.ks]; rfl, ?_⟩
    rw [List.map_append, List.map_append]
    exact h.vs.append (.cons hx .nil)
theorem zip_fs {α : Type} : ∀ (es : List (κ × α)), (es.map (·.1)).zip (es.map (·.2)) = es
  | [] => rfl
  | p :: es => by rw [List.map_cons, List.map_cons, List.zip_cons_cons, zip_fs es]
theorem relG_zip {ks : List κ} {xs : List D} {kvs : List (κ × V)} (h1 : kvs.map (·.1) = ks) (h2 : DatL K F A xs (kvs.map (·.2))) : RelG K F A (ks.zip xs) kvs := by
  have hl : ks.length = xs.length := by rw [← h2.length, ← h1, List.length_map, List.length_map]
  refine ⟨?_, ?_⟩
  · rw [h1, List.map_fst_zip (Nat.le_of_eq hl)]
  · rw [List.map_snd_zip (Nat.le_of_eq hl.symm)]; exact h2
end
inductive DV where
  | k (es : List (Key × D)) | t (es : List (List Key × D))
def DV.len : DV → Nat
  | .k es => es.length
  | .t es => es.length
def DV.mo : DV → MO
  | .k es => .dk (es.map (·.1)) (es.map (·.2))
  | .t es => .dt (es.map (·.1)) (es.map (·.2))
def DV.d : DV → D
  | .k es => .dk (es.map (·.1)) (es.map (·.2))
  | .t es => .dt (es.map (·.1)) (es.map (·.2))
def DV.get : DV → D → Option (Option D)
  | .k es, y => (keyD1 y).map (getP es)
  | .t es, .tup ys => (keysD ys).map (getP es)
  | .t _, _ => none
def DV.put : DV → D → D → Option DV
  | .k es, y, v => (keyD1 y).map fun k => .k (putP es k v)
  | .t es, .tup ys, v => (keysD ys).map fun k => .t (putP es k v)
  | .t _, _, _ => none
def dictD (s : Sto) : D → Option DV
  | .dk ks xs => some (.k (ks.zip xs))
  | .dt ks xs => some (.t (ks.zip xs))
  | .ref l => match s[l]? with
    | some (some (.fdk ks xs)) => some (.k (ks.zip xs))
    | some (some (.fdt ks xs)) => some (.t (ks.zip xs))
    | some (some (.dk ks xs)) => some (.k (ks.zip xs))
    | some (some (.dt ks xs)) => some (.t (ks.zip xs))
    | _ => none
  | _ => none
theorem dictD_mo {s : Sto} {l : Nat} {dv : DV} (h : s[l]? = some (some dv.mo)) : dictD s (.ref l) = some dv := by
  unfold dictD
  cases dv with
  | k es => simp only [h, DV.mo, zip_fs]
  | t es => simp only [h, DV.mo, zip_fs]
/-- it stands at a -/
def DvAtM (K : PySem.W.Frag) (F : Hp) (A : List Addr) (H : Hp) (a : Addr) : DV → Prop
  | .k es => ∃ kvs, H a = some (.dK kvs) ∧ RelG K F A es kvs
  | .t es => ∃ kvs, H a = some (.dT kvs) ∧ RelG K F A es kvs
def DvAt (K : PySem.W.Frag) (F : Hp) (A : List Addr) (H : Hp) (a : Addr) : DV → Prop
  | .k es => ∃ kvs, Rd H a (.dK kvs) ∧ RelG K F A es kvs
  | .t es => ∃ kvs, Rd H a (.dT kvs) ∧ RelG K F A es kvs
theorem DvAtM.rd {K : PySem.W.Frag} {F : Hp} {A : List Addr} {H : Hp} {a : Addr} {dv : DV} (h : DvAtM K F A H a dv) : DvAt K F A H a dv := by
  cases dv with
  | k es => obtain ⟨kvs, h1, h2⟩ := h; exact ⟨kvs, .of h1, h2⟩
  | t es => obtain ⟨kvs, h1, h2⟩ := h; exact ⟨kvs, .of h1, h2⟩
section
variable {K : PySem.W.Frag} {B : List Addr} {H : Hp} {A : List Addr} {s : Sto}
theorem dictD_rd (R : RepS K B H A s) {x : D} {v : V} {dv : DV} (d : Dat K (Fz B H A s) A x v) (h : dictD s x = some dv) : ∃ a, v = .ref a ∧ DvAt K (Fz B H A s) A H a dv := by
  unfold dictD at h
  split at h
  · cases h
    cases d with
    | dk h1 h2 => exact ⟨_, rfl, _, .of (fz_of h1).1, relG_zip rfl h2⟩
  · cases h
    cases d with
    | dt h1 h2 => exact ⟨_, rfl, _, .of (fz_of h1).1, relG_zip rfl h2⟩
  · rename_i l
    cases d with
    | ref hA =>
      split at h
      · rename_i ks xs hs
        cases h
        obtain ⟨a, ha, o, kvs, h1, h2, h3⟩ := R.ob l _ hs
        rw [hA] at ha; cases ha
        exact ⟨_, rfl, kvs, .inr ⟨o, h1⟩, relG_zip h2 h3⟩
      · rename_i ks xs hs
        cases h
        obtain ⟨a, ha, o, kvs, h1, h2, h3⟩ := R.ob l _ hs
        rw [hA] at ha; cases ha
        exact ⟨_, rfl, kvs, .inr ⟨o, h1⟩, relG_zip h2 h3⟩
      · rename_i ks xs hs
        cases h
        obtain ⟨a, ha, kvs, h1, h2, h3⟩ := R.ob l _ hs
        rw [hA] at ha; cases ha
        exact ⟨_, rfl, kvs, .of h1, relG_zip h2 h3⟩
      · rename_i ks xs hs
        cases h
        obtain ⟨a, ha, kvs, h1, h2, h3⟩ := R.ob l _ hs
        rw [hA] at ha; cases ha
        exact ⟨_, rfl, kvs, .of h1, relG_zip h2 h3⟩
      · cases h
  · cases h
theorem dget_rd (R : RepS K B H A s) {y : D} {u : V} {a : Addr} {dv : DV} {o : Option D} (q : DvAt K (Fz B H A s) A H a dv) (d : Dat K (Fz B H A s) A y u) (h : dv.get y = some o) :
    ∃ r, DGet H a u r ∧ (o = none → r = none) ∧ ∀ z, o = some z → ∃ w, r = some w ∧ Dat K (Fz B H A s) A z w := by
  cases dv with
  | k es =>
    obtain ⟨kvs, h1, h2⟩ := q
    have h : (keyD1 y).map (getP es) = some o := h
    cases hk : keyD1 y with
    | none => rw [hk] at h; cases h
    | some k =>
      rw [hk] at h
      cases h
      cases key_rd d hk
      exact ⟨_, .inl ⟨kvs, k, h1, rfl, rfl⟩, (h2.get k).1, (h2.get k).2⟩
  | t es =>
    obtain ⟨kvs, h1, h2⟩ := q
    by_cases hy : ∃ ys, y = .tup ys
    · obtain ⟨ys, rfl⟩ := hy
      have h : (keysD ys).map (getP es) = some o := h
      cases d with
      | tup t1 t2 =>
        cases hk : keysD ys with
        | none => rw [hk] at h; cases h
        | some k =>
          rw [hk] at h
          cases h
          have e2 := keys_rd t2 hk
          subst e2
          exact ⟨_, .inr ⟨kvs, k, _, h1, rfl, (fz_of (tp_key t1 t2 hk)).1, rfl⟩, (h2.get k).1, (h2.get k).2⟩
    · exfalso
      cases y <;> first | exact hy ⟨_, rfl⟩ | cases h
end
section
variable {X : DX} {o i value e f : Expr} {td ty tv tx : ED} {pos pos' apos mpos : Pos}
/-- {} -/
def dDNewK : ED := fun _ s Q => Q (.ref s.length) (s ++ [some (.dk [] [])])
theorem pd_dnewK : PD X (.Dict [] [] pos) dDNewK := ⟨pe_imp pe_dnewK fun σ H Q ⟨env, s, A, B, w, q⟩ p hp => by
  obtain ⟨r, e⟩ := w.rs.born (o := .dK []) (mo := .dk [] []) hp ⟨[], upd_same, rfl, .nil⟩
  exact q _ _ _ r e (.ref (by rw [← w.rs.len]; simp)), fun _ _ _ _ g q => g _ _ q⟩
/-- d[y] -/
def dDGet (td ty : ED) : ED := fun env s Q => td env s fun x s1 => ty env s1 fun y s2 => ∃ dv z, dictD s2 x = some dv ∧ dv.get y = some (some z) ∧ Q z s2
theorem mono_dget (md : Mono td) (my : Mono ty) : Mono (dDGet td ty) := fun _ _ _ _ g h => md _ _ _ _ (fun _ _ h => my _ _ _ _ (fun _ _ ⟨dv, z, a, b, q⟩ => ⟨dv, z, a, b, g _ _ q⟩) h) h
theorem pd_dget (hu : X.A.units + 64 < cLine) (ho : PD X o td) (hi : PD X i ty) (hs : NoSl i) : PD X (.Subscript o i pos) (dDGet td ty) :=
  ⟨pe_imp (pe_dget (by omega) ho.pe hi.pe hs) fun σ H Q ⟨env, s, A, B, w, h⟩ => rdE_go ho.mono w h fun x s1 v H1 A1 h1 w1 e1 dx => rdE_go hi.mono w1 h1 fun y s2 u H2 A2 ⟨dv, z, hd, hg, q⟩ w2 e2 dy => by
    obtain ⟨a, rfl, at'⟩ := dictD_rd w2.rs (dx.ext e2) hd
    obtain ⟨r, g, _, z2⟩ := dget_rd w2.rs at' dy hg
    obtain ⟨wv, rfl, dz⟩ := z2 z rfl
    exact ⟨a, wv, rfl, g, q _ _ _ w2.rs (e1.trans e2) dz⟩, mono_dget ho.mono hi.mono⟩
/-- y in d, y not in d -/
def dDIn (g : Bool → Bool) (ty td : ED) : ED := fun env s Q => ty env s fun y s1 => td env s1 fun x s2 => ∃ dv o, dictD s2 x = some dv ∧ dv.get y = some o ∧ Q (.bl (g o.isSome)) s2
theorem mono_din {g : Bool → Bool} (my : Mono ty) (md : Mono td) : Mono (dDIn g ty td) := fun _ _ _ _ g' h => my _ _ _ _ (fun _ _ h => md _ _ _ _ (fun _ _ ⟨dv, z, a, b, q⟩ => ⟨dv, z, a, b, g' _ _ q⟩) h) h
theorem isSome_of {r : Option V} {od : Option D} {P : D → V → Prop} (h1 : od = none → r = none) (h2 : ∀ z, od = some z → ∃ w, r = some w ∧ P z w) : r.isSome = od.isSome := by
  cases od with
  | none => rw [h1 rfl]; rfl
  | some z => obtain ⟨w, e, _⟩ := h2 z rfl; rw [e]; rfl
end
end Dl
set_option Elab.async false
set_option linter.all false
set_option autoImplicit false
set_option maxRecDepth 100000
set_option maxHeartbeats 4000000
namespace Dl
open PySem PySem.Spec PyProof.Rows L2
end Dl
set_option Elab.async false
set_option linter.all false
set_option autoImplicit false
set_option maxRecDepth 100000
set_option maxHeartbeats 4000000
namespace Dl
open PySem PySem.Spec PyProof.Rows L2
end Dl
set_option Elab.async false
set_option linter.all false
set_option autoImplicit false
set_option maxRecDepth 100000
set_option maxHeartbeats 4000000
namespace Dl
open PySem PySem.Spec PyProof.Rows L2
end Dl
set_option Elab.async false
set_option linter.all false
set_option autoImplicit false
set_option maxRecDepth 100000
set_option maxHeartbeats 4000000
namespace Dl
open PySem PySem.Spec PyProof.Rows L2
def keyP : Key → PyData
  | .inl i => .int i
  | .inr z => .str z
def scal : D → Bool
  | .int _ => true
  | .str _ => true
  | .bl _ => true
  | .non => true
  | _ => false
mutual
def pyE : D → PyData
  | .bl b => .bool b
  | .int i => .int i
  | .str z => .str z
  | .non => .none
  | .tup xs => .tuple (pyEL xs)
  | .lst xs => .list (pyEL xs)
  | .frl xs => .list (pyEL xs)
  | .dk ks xs => .dict ((ks.map keyP).zip (pyEL xs))
  | .dt _ _ => .none
  | .ref _ => .none
  | .exc _ _ _ => .none
def pyEL : List D → List PyData
  | [] => []
  | x :: xs => pyE x :: pyEL xs
end
mutual
def seqsE : D → Bool
  | .tup xs => seqsEL xs
  | .lst xs => seqsEL xs
  | .frl xs => seqsEL xs
  | .dk _ xs => xs.all scal
  | .dt _ _ => false
  | .ref _ => false
  | .exc _ _ _ => false
  | _ => true
def seqsEL : List D → Bool
  | [] => true
  | x :: xs => seqsE x && seqsEL xs
end
def rpE (x : D) : Str := (pyE x).shown
end Dl
set_option Elab.async false
set_option linter.all false
set_option autoImplicit false
set_option maxRecDepth 100000
set_option maxHeartbeats 4000000
namespace Dl
open PySem PySem.Spec PyProof.Rows L2
end Dl
set_option Elab.async false
set_option linter.all false
set_option autoImplicit false
set_option maxRecDepth 100000
set_option maxHeartbeats 4000000
namespace Dl
open PySem PySem.Spec PyProof.Rows L2
end Dl
set_option Elab.async false
set_option linter.all false
set_option autoImplicit false
set_option maxRecDepth 100000
set_option maxHeartbeats 4000000
namespace Dl
open PySem PySem.Spec PyProof.Rows L2
/-- the heap grew -/
def Kd (s s' : Shared) : Prop := ∃ (h' : Heap) (tk : Nat), s' = { s with heap := h', toks := tk } ∧ ∀ b o, s.heap.get? b = some o → h'.get? b = some o
theorem Kd.refl {s : Shared} : Kd s s := ⟨s.heap, s.toks, rfl, fun _ _ e => e⟩
theorem Kd.trans {s s' s'' : Shared} (a : Kd s s') (b : Kd s' s'') : Kd s s'' := by
  obtain ⟨h1, t1, rfl, k1⟩ := a
  obtain ⟨h2, t2, rfl, k2⟩ := b
  exact ⟨h2, t2, rfl, fun b o e => k2 b o (k1 b o e)⟩
theorem Kd.tok {s : Shared} {t : Nat} : Kd s { s with toks := t } := ⟨s.heap, t, rfl, fun _ _ e => e⟩
end Dl
set_option Elab.async false
set_option linter.all false
set_option autoImplicit false
set_option maxRecDepth 100000
set_option maxHeartbeats 4000000
namespace Dl
open PySem PySem.Spec PyProof.Rows L2
end Dl
set_option Elab.async false
set_option linter.all false
set_option autoImplicit false
set_option maxRecDepth 100000
set_option maxHeartbeats 4000000
namespace Dl
open PySem PySem.Spec PyProof.Rows L2
end Dl
set_option Elab.async false
set_option linter.all false
set_option autoImplicit false
set_option maxRecDepth 100000
set_option maxHeartbeats 4000000
namespace Dl
open PySem PySem.Spec PyProof.Rows L2
end Dl
set_option Elab.async false
set_option linter.all false
set_option autoImplicit false
set_option maxRecDepth 100000
set_option maxHeartbeats 4000000
namespace Dl
open PySem PySem.Spec PyProof.Rows L2
end Dl
set_option Elab.async false
set_option linter.all false
set_option autoImplicit false
set_option maxRecDepth 100000
set_option maxHeartbeats 4000000
namespace Dl
open PySem PySem.Spec PyProof.Rows L2
def enumD (ds : List D) : List D := (List.range ds.length).map fun i => .tup [.int (i : Nat), ds.getD i .non]
theorem itok_enumL {K : PySem.W.Frag} {B : List Addr} {H : Hp} {A : List Addr} {s : Sto} {a : Addr} {vs : List V} {ds : List D} (hF : Fz B H A s a = some (.lst vs)) (hd : DatL K (Fz B H A s) A ds vs) : ItOk K B (Ite K a) (enumD ds) noG H A s := by
  intro B' H' A' s' R e p hg i
  have hs' : SqL K H' a vs := .of (fz_of (e _ _ hF)).1
  have hlen : (enumD ds).length = ds.length := by simp [enumD]
  refine ⟨fun d hi => ?_, fun hi => ⟨vs, hs', by rw [hd.length, ← hlen]; exact hi⟩⟩
  have hil : i < ds.length := by
    have := (List.getElem?_eq_some_iff.mp hi).1
    omega
  have hdi : d = .tup [.int (i : Nat), ds[i]] := by
    have : (enumD ds)[i]? = some (.tup [.int (i : Nat), ds.getD i .non]) := by
      unfold enumD
      rw [List.getElem?_map, List.getElem?_range hil]; rfl
    rw [this] at hi
    rw [← Option.some.inj hi, List.getD_eq_getElem?_getD, List.getElem?_eq_getElem hil]; rfl
  subst hdi
  obtain ⟨v, hv, dv⟩ := hd.get (List.getElem?_eq_getElem hil)
  refine ⟨⟨vs, v, hs', hv⟩, fun x H2 ⟨T, y, ex, hT, eH, hy⟩ => ?_⟩
  have h1 := hy vs hs'
  rw [hv] at h1
  cases h1
  subst ex
  subst eH
  obtain ⟨r, e2, f⟩ := R.laid (o := .tup [.int (i : Nat), v]) hT
  exact ⟨r, e2, .tup (.of f) (.cons (.int _) (.cons ((dv.mono e p).ext e2) .nil))⟩
def iEnL (t : AD) : ID := fun env s R => t env s fun xs s1 => ∃ ds, xs = [.lst ds] ∧ R (enumD ds) noG s1
theorem mono_iEnL {t : AD} (m : Mono t) : MonoI (iEnL t) := fun _ _ _ _ f h => m _ _ _ _ (fun _ _ ⟨z, e, q⟩ => ⟨z, e, f _ _ _ q⟩) h
theorem pid_enumL {X : DX} {e : Expr} {t : AD} {p pos tpos : Pos} {elts : List Expr} {kk : Nat} (hg : Gl X "enumerate") (hm : X.mg "enumerate" = none) (ha : PAD X [e] t) (hs : starEach [e] X.env = [(false, eval e X.env)] := by rfl) : PID X (.Tuple elts kk tpos) (.Call (.Name "enumerate" p) [e] [] pos) (iEnL t) :=
  ⟨pi_imp (pi_enum hg hm ha.pa hs) fun σ H R ⟨env, s, A, B, w, h⟩ => rdA_go ha.mono w h fun xs s1 vs H1 A1 ⟨ds, ex, q⟩ w1 e1 dv => by
    subst ex
    obtain ⟨v, rfl, d⟩ := one_of dv
    cases d with
    | @lst a us _ hF hd => exact ⟨a, us, rfl, .of (fz_of hF).1, q _ _ _ w1.rs e1 (itok_enumL hF hd)⟩, mono_iEnL ha.mono⟩
end Dl
set_option Elab.async false
set_option linter.all false
set_option autoImplicit false
set_option maxRecDepth 100000
set_option maxHeartbeats 4000000
namespace L2
open PySem PySem.Spec PyProof.Rows
end L2
namespace Dl
open PySem PySem.Spec PyProof.Rows L2
end Dl
set_option Elab.async false
set_option linter.all false
set_option autoImplicit false
set_option maxRecDepth 100000
set_option maxHeartbeats 4000000
namespace L2
open PySem PySem.Spec PyProof.Rows
end L2
namespace Dl
open PySem PySem.Spec PyProof.Rows L2
def WrT (K : PySem.W.Frag) (mg : Str → Option Value) (x : Str) (zs : List Str) : Prop :=
  ∃ (a : Addr) (o : Obj) (its : Array Value) (n : Nat), mg x = some (.ref a) ∧ K.lookup a = some o ∧ o.cls = .type "tuple" ∧ o.data = .seq its n ∧ its.size ≤ sizeLine ∧ Vals (zs.map V.str) its.toList ∧ ∀ z ∈ zs, z.length ≤ sizeLine
theorem wrT_mk {K : PySem.W.Frag} {mg : Str → Option Value} {x : Str} {zs : List Str} {a : Addr} {od : Option Addr} {its : Array Value} {n : Nat} {sl : Array (Option Value)} (hm : mg x = some (.ref a)) (hl : K.lookup a = some ⟨.type "tuple", od, .seq its n, sl⟩) (hz : its.size ≤ sizeLine) (hv : Vals (zs.map V.str) its.toList) (hs : ∀ z ∈ zs, z.length ≤ sizeLine) : WrT K mg x zs :=
  ⟨a, _, its, n, hm, hl, rfl, rfl, hz, hv, hs⟩
def dInC (g : Bool → Bool) (zs : List Str) (t : ED) : ED := fun env s Q => t env s fun x s1 => InOk (zs.map .str) x ∧ Q (.bl (g (inAny (zs.map .str) x))) s1
theorem mono_dInC {g : Bool → Bool} {zs : List Str} {t : ED} (m : Mono t) : Mono (dInC g zs t) := fun _ _ _ _ f h => m _ _ _ _ (fun _ _ ⟨a, q⟩ => ⟨a, f _ _ q⟩) h
section
variable {X : DX}
theorem pd_inC {a : Expr} {ta : ED} {x : Str} {zs : List Str} {p pos : Pos} (hu : X.A.units + 64 < cLine) (hg : Gl X x) (hw : WrT X.K X.mg x zs) (ha : PD X a ta) (hm : behindInMarks .In (.Name x p) = false) (hd : (x == ("__debug__" : Str)) = false := by decide) :
    PD X (.Compare a [.In] [.Name x p] pos) (dInC id zs ta) := by
  obtain ⟨b, o, its, n, h1, h2, h3, h4, h5, h6, h7⟩ := hw
  refine ⟨pe_imp (pe_cmpR (op_inN hu) ha.pe (pe_glob (v := .ref b) hg h1 rfl hd) hm) fun σ H Q ⟨env, s, A, B, w, h⟩ => ?_, mono_dInC ha.mono⟩
  refine rdE_go ha.mono w h fun x s1 v H1 A1 ⟨ok, q⟩ w1 e1 dv => ?_
  exact ⟨Fz B H1 A1 s1, A1, b, zs.map V.str, zs.map D.str, x, fz_same, rfl, .inr (.inr ⟨o, its, n, h2, h3, h4, h5, h6⟩), DatL.of_strs zs h7, dv, ok, q _ _ _ w1.rs e1 (.bl _)⟩
end
end Dl
set_option Elab.async false
set_option linter.all false
set_option autoImplicit false
set_option maxRecDepth 100000
set_option maxHeartbeats 4000000
namespace Fi
open PySem PySem.Spec PyProof.Rows L2 Dl Bk
open Fa (ifD ifB ifT ifF two three powOk10 fapp strL strL_length strL_cps txt_join_signs)
open Fb (Kp ixr app_last)
/-- the ink stands at p -/
def Is (c : Int) (p : Nat) (s : Sto) : Prop := ∃ (ns : List Int) (i r t : Int), s[p]? = some (some (.lst [.lst (ns.map .int), .int i, .int r, .int t])) ∧ ns.length ≤ 63 ∧ 0 ≤ i ∧ i ≤ c ∧ 0 ≤ t ∧ t < 2305843009213693921
theorem Is.up {c d : Int} {p : Nat} {s : Sto} (h : Is c p s) (hc : c ≤ d) : Is d p s := by
  obtain ⟨ns, i, r, t, h1, h2, h3, h4, h5⟩ := h
  exact ⟨ns, i, r, t, h1, h2, h3, by omega, h5⟩
theorem Is.lt {c : Int} {p : Nat} {s : Sto} (h : Is c p s) : p < s.length := by
  obtain ⟨ns, i, r, t, h1, _⟩ := h
  exact (List.getElem?_eq_some_iff.mp h1).1
theorem Is.app {c : Int} {p : Nat} {s u : Sto} (h : Is c p s) : Is c p (s ++ u) := by
  obtain ⟨ns, i, r, t, h1, h2⟩ := h
  exact ⟨ns, i, r, t, by rw [List.getElem?_append_left (List.getElem?_eq_some_iff.mp h1).1]; exact h1, h2⟩
theorem Is.set {c : Int} {p l : Nat} {s : Sto} {o : Option MO} (h : Is c p s) (hl : l ≠ p) : Is c p (s.set l o) := by
  obtain ⟨ns, i, r, t, h1, h2⟩ := h
  exact ⟨ns, i, r, t, by rw [List.getElem?_set_ne hl]; exact h1, h2⟩
end Fi
set_option Elab.async false
set_option linter.all false
set_option autoImplicit false
set_option maxRecDepth 100000
set_option maxHeartbeats 4000000
namespace Fb
open PySem PySem.Spec PyProof.Rows L2 Dl Bk
open Fa (ifD ifB ifT ifF two three powOk10 fapp strL strL_length strL_cps txt_join_signs)
theorem sgnIn_of {r : Str} {l : List Nat} {z : Str} (hz : sgnIn r z = true) (h : ∀ c ∈ l, c ∈ z.cps.toList) : sgnIn r (strL l) = true := by
  unfold sgnIn at hz ⊢
  rw [List.all_eq_true] at hz ⊢
  exact fun c hc => hz c (h c hc)
theorem strs_signs (l : List Nat) : strsOf (l.map fun c => D.str ⟨#[c]⟩) = some (l.map fun c => (⟨#[c]⟩ : Str)) := by
  have := strsOf_map (l.map fun c => (⟨#[c]⟩ : Str))
  rwa [List.map_map] at this
theorem sum_signs {l : List Nat} (h : l.length ≤ 100000) : ((l.map fun c => (⟨#[c]⟩ : Str)).map (·.length)).sum + (l.map fun c => (⟨#[c]⟩ : Str)).length * ("" : Str).length ≤ 16777216 := by
  have hsum : ∀ l : List Nat, ((l.map fun c => (⟨#[c]⟩ : Str)).map (·.length)).sum = l.length := fun l => by
    induction l with
    | nil => rfl
    | cons c l ih => rw [List.map_cons, List.map_cons, List.sum_cons, ih, List.length_cons]; show 1 + l.length = _; omega
  rw [hsum]
  show l.length + _ * 0 ≤ _
  omega
/-- signs drawn from a text -/
theorem lc_draws {env : En} {s : Sto} {K : List D → Sto → Prop} {j p : Nat} {z : Str} {n c : Int} {TE M : ED} (h0 : env[0]? = some (some (.ref p))) (hj : j ≠ 0) (hjl : j < env.length) (S : Ps c p s) (hc : c + n ≤ 1000000000) (z1 : 1 ≤ z.length) (z2 : z.length ≤ 1000) (n0 : 0 ≤ n)
    (hTE : ∀ d s P, P (.str z) s → TE ((wipeE env [j]).set j (some d)) s P) (hM : ∀ d s P, P (.int z.length) s → M ((wipeE env [j]).set j (some d)) s P)
    (q : ∀ (l : List Nat) s', l.length = n.toNat → (∀ x ∈ l, x ∈ z.cps.toList) → Ps (c + n) p s' → Kp p s s' → s'.length = s.length → K (l.map fun c => D.str ⟨#[c]⟩) s') :
    lcD noG (CT.g (.one j)) dYes (dBin (oF idxF) TE (dCall sp__law_take [] (dCons (dVar 0) (dCons M dNil)))) (wipeE env [j]) (rangeD 0 n.toNat) s K := by
  have hlen : (rangeD 0 n.toNat).length = n.toNat := by simp [rangeD]
  refine lcD_run (fun rest acc s1 => ∃ l : List Nat, acc = l.map (fun c => D.str ⟨#[c]⟩) ∧ rest.length + l.length = n.toNat ∧ (∀ x ∈ l, x ∈ z.cps.toList) ∧ Ps (c + l.length) p s1 ∧ Kp p s s1 ∧ s1.length = s.length) ?_ (acc := []) ⟨[], rfl, by simp [hlen], by simp, S.up (by simp), .refl, rfl⟩ ?_
  · rintro d rest acc s1 ⟨l, rfl, hl, hz, S1, K1, e1⟩ k1 k0 h1 h2
    rw [List.length_cons] at hl
    have e0 : ((wipeE env [j]).set j (some d))[0]? = some (some (.ref p)) := by
      rw [List.getElem?_set_ne hj]
      show (env.set j none)[0]? = _
      rw [List.getElem?_set_ne hj]
      exact h0
    refine ⟨trivial, hTE d _ _ ⟨_, e0, hM d _ _ ⟨_, p, _, rfl, S1, by omega, by omega, by omega, fun i s2 i0 i1 S2 K2 e2 => ?_⟩⟩⟩
    obtain ⟨x, hx, hm⟩ := atI_mem (xs := z.cps.toList) i0 (by rw [Array.length_toList]; exact i1)
    refine ⟨_, by rw [idx_s, hx]; rfl, h1 _ _ ⟨l ++ [x], by simp, by simp; omega, fun y hy => ?_, S2.up (by simp; omega), K1.trans K2, by omega⟩⟩
    rcases List.mem_append.mp hy with h | h
    · exact hz _ h
    · rw [List.mem_singleton.mp h]; exact hm
  · rintro ys s1 ⟨l, hl, hn, hz, S1, K1, e1⟩
    rw [List.nil_append] at hl
    subst hl
    have hll : l.length = n.toNat := by simpa using hn
    exact ⟨trivial, q l s1 hll hz (S1.up (by omega)) K1 e1⟩
def sp__law_word : SpD := fun ds s Q _ => ∃ (c : Int) (p : Nat) (z : Str) (kinds way : Int), ds = [.ref p, .str z, .int kinds, .int way] ∧ 1 ≤ kinds ∧ kinds ≤ 100 ∧ 0 ≤ way ∧ way < 6 ∧ sgnIn az z = true ∧ 1 ≤ z.length ∧ z.length ≤ 26 ∧ Ps c p s ∧ c ≤ 10000000 ∧ ∀ x s', IsW kinds x → Ps (c + 100) p s' → Kp p s s' → s'.length = s.length → Q x s'
def b__law_word : SD := (dSeq (dAsg (dBin (oF idxF) (dLst (dCons (dC (.int 1)) (dCons (dC (.int 2)) (dCons (dBin (oF addF) (dC (.int 1)) (dCall sp__law_take [] (dCons (dVar 0) (dCons (dC (.int 4)) dNil)))) (dCons (dBin (oF addF) (dC (.int 1)) (dCall sp__law_take [] (dCons (dVar 0) (dCons (dC (.int 40)) dNil)))) dNil))))) (dBin (oF idxF) (dLst (dCons (dC (.int 0)) (dCons (dC (.int 1)) (dCons (dC (.int 1)) (dCons (dC (.int 2)) (dCons (dC (.int 2)) (dCons (dC (.int 2)) (dCons (dC (.int 2)) (dCons (dC (.int 3)) dNil))))))))) (dCall sp__law_take [] (dCons (dVar 0) (dCons (dC (.int 8)) dNil))))) (gN 4))
  (dSeq (dAsg (dJoin (dC (.str "")) (dLc (iR1 (dCons (dVar 4) dNil)) (CT.g (.one 7)) dYes (dBin (oF idxF) (dVar 1) (dCall sp__law_take [] (dCons (dVar 0) (dCons (dCB lenF (dCons (dVar 1) dNil)) dNil)))) [7])) (gN 5))
  (dSeq (dAsg (dJoin (dC (.str "")) (dLc (iR1 (dCons (dBin (oF idxF) (dLst (dCons (dC (.int 1)) (dCons (dC (.int 1)) (dCons (dC (.int 2)) (dCons (dC (.int 12)) dNil))))) (dCall sp__law_take [] (dCons (dVar 0) (dCons (dC (.int 4)) dNil)))) dNil)) (CT.g (.one 7)) dYes (dBin (oF idxF) (dC (.str "ABZ")) (dCall sp__law_take [] (dCons (dVar 0) (dCons (dC (.int 3)) dNil)))) [7])) (gN 6))
  (dRet (dTup (dCons (dVar 5) (dCons (dVar 6) (dCons (dCall sp__law_cost [] (dCons (dVar 0) (dCons (dVar 3) dNil))) (dCons (dCall sp__law_take [] (dCons (dVar 0) (dCons (dVar 2) dNil))) dNil)))))))))
theorem mono__law_word : MonoSp sp__law_word := fun _ _ _ _ _ _ f _ ⟨c, p, z, k, w, h1, h2, h3, h4, h5, h6, h7, h8, h9, h10, h⟩ => ⟨c, p, z, k, w, h1, h2, h3, h4, h5, h6, h7, h8, h9, h10, fun i s' a1 a2 a3 a4 => f _ _ (h i s' a1 a2 a3 a4)⟩
theorem len__law_word : ∀ ds s Q E, sp__law_word ds s Q E → ds.length = ["pot", "letters", "kinds", "way"].length := fun _ _ _ _ ⟨_, _, _, _, _, h, _⟩ => by rw [h]; rfl
section
variable (ds : List D) (s : Sto) (Q : D → Sto → Prop) (E : XD)
theorem pf__law_word (h : sp__law_word ds s Q E) : b__law_word (endsOf Q) (envD ["pot", "letters", "kinds", "way", "many", "reading", "writing", "k"] ds) s := by
  obtain ⟨c, p, z, kinds, way, rfl, k0, k1, w0, w1, hz, z1, z2, S, hc, q⟩ := h
  refine ⟨_, rfl, c, p, 4, rfl, S, by omega, by decide, by decide, fun i1 s1 a1 b1 S1 K1 l1 => ⟨_, rfl, ?_⟩⟩
  refine ⟨_, rfl, _, p, 40, rfl, S1, by omega, by decide, by decide, fun i2 s2 a2 b2 S2 K2 l2 => ⟨_, rfl, Dl.ll, Dl.ll, ?_⟩⟩
  refine ⟨_, rfl, _, p, 8, rfl, S2, by omega, by decide, by decide, fun i3 s3 a3 b3 S3 K3 l3 => ?_⟩
  obtain ⟨x, hx, hm⟩ := atI_mem (xs := [D.int 0, .int 1, .int 1, .int 2, .int 2, .int 2, .int 2, .int 3]) a3 (by simpa using b3)
  have hx' : ∃ j : Int, x = .int j ∧ 0 ≤ j ∧ j < 4 := by
    rcases (by simpa using hm : x = D.int 0 ∨ x = .int 1 ∨ x = .int 2 ∨ x = .int 3) with rfl | rfl | rfl | rfl <;> exact ⟨_, rfl, by decide, by decide⟩
  obtain ⟨j, rfl, j0, j1⟩ := hx'
  obtain ⟨y, hy, my⟩ := atI_mem (xs := [D.int 1, .int 2, .int (1 + i1), .int (1 + i2)]) j0 (by simpa using j1)
  have hy' : ∃ m : Int, y = .int m ∧ 1 ≤ m ∧ m ≤ 40 := by
    rcases (by simpa using my : y = D.int 1 ∨ y = .int 2 ∨ y = .int (1 + i1) ∨ y = .int (1 + i2)) with rfl | rfl | rfl | rfl
    · exact ⟨_, rfl, by omega, by omega⟩
    · exact ⟨_, rfl, by omega, by omega⟩
    · exact ⟨_, rfl, by omega, by omega⟩
    · exact ⟨_, rfl, by omega, by omega⟩
  obtain ⟨m, rfl, m0, m1⟩ := hy'
  refine ⟨_, hx, _, hy, ?_⟩
  have hr : ∀ n, (rangeD 0 n).length = n := fun n => by simp [rangeD]
  refine ⟨_, rfl, _, rfl, m, rfl, by omega, by omega, le_line (by rw [hr]; omega), ?_⟩
  refine lc_draws (z := z) rfl (by decide) (Nat.lt_succ_self 7) S3 (by omega) z1 (by omega) (by omega) (fun d s P h => ⟨_, rfl, h⟩) (fun d s P h => ⟨_, rfl, _, rfl, h⟩) fun l s4 hl hlz S4 K4 l4 => ⟨_, _, rfl, strs_signs l, sum_signs (by omega), ?_⟩
  rw [txt_join_signs]
  refine ⟨_, rfl, Dl.ll, _, rfl, _, p, 4, rfl, S4, by omega, by decide, by decide, fun i5 s5 a5 b5 S5 K5 l5 => ?_⟩
  obtain ⟨y, hy, my⟩ := atI_mem (xs := [D.int 1, .int 1, .int 2, .int 12]) a5 (by simpa using b5)
  have hy' : ∃ m : Int, y = .int m ∧ 1 ≤ m ∧ m ≤ 12 := by
    rcases (by simpa using my : y = D.int 1 ∨ y = .int 2 ∨ y = .int 12) with rfl | rfl | rfl <;> exact ⟨_, rfl, by decide, by decide⟩
  obtain ⟨o, rfl, o0, o1⟩ := hy'
  refine ⟨_, hy, o, rfl, by omega, by omega, le_line (by rw [hr]; omega), ?_⟩
  refine lc_draws (z := "ABZ") rfl (by decide) (Nat.lt_succ_self 7) S5 (by omega) (by decide) (by decide) (by omega) (fun d s P h => h) (fun d s P h => h) fun u s6 hu huz S6 K6 l6 => ⟨_, _, rfl, strs_signs u, sum_signs (by omega), ?_⟩
  rw [txt_join_signs]
  refine ⟨_, rfl, _, rfl, _, rfl, _, rfl, _, p, way, rfl, w0, w1, S6, by omega, fun cost s7 c0 c1 S7 K7 l7 => ?_⟩
  refine ⟨_, rfl, _, rfl, _, p, kinds, rfl, S7, by omega, by omega, by omega, fun kind s8 a8 b8 S8 K8 l8 => ⟨Dl.ll, ?_⟩⟩
  refine q _ s8 ⟨_, _, _, _, rfl, ⟨sgnIn_of hz hlz, by rw [strL_length]; omega, by rw [strL_length]; omega, sgnIn_of (show sgnIn AZ "ABZ" = true by decide +kernel) huz, by rw [strL_length]; omega, by rw [strL_length]; omega, c0, c1, a8, b8⟩⟩ (S8.up (by omega)) (K1.trans (K2.trans (K3.trans (K4.trans (K5.trans (K6.trans (K7.trans K8))))))) (by omega)
end
end Fb
set_option Elab.async false
set_option linter.all false
set_option autoImplicit false
set_option maxRecDepth 100000
set_option maxHeartbeats 4000000
namespace Fi
open PySem PySem.Spec PyProof.Rows L2 Dl Bk
open Fa (ifD ifB ifT ifF two three powOk10 fapp strL strL_length strL_cps txt_join_signs)
open Fb (Kp ixr app_last strs_signs sum_signs)
abbrev namedL : List Str := ["rub", "turn", "next", "back", "left", "right", "wider", "narrower", "plain"]
abbrev sigs : Str := "abcdefghijklmnopqrstuvwxyzABCDEFGHIJKLMNOPQRSTUVWXYZ "
theorem inOk_str {zs : List Str} {w : Str} : InOk (zs.map .str) (.str w) := by
  refine ⟨?_, fun d hd => ?_⟩
  · induction zs with
    | nil => rfl
    | cons z zs ih => rw [List.map_cons]; simpa [pureL, pureD] using ih
  · obtain ⟨z, _, rfl⟩ := List.mem_map.mp hd
    exact ⟨_, rfl⟩
theorem inAny_str {zs : List Str} {w : Str} : inAny (zs.map .str) (.str w) = decide (w ∈ zs) := by
  unfold inAny
  rw [List.any_map]
  by_cases h : w ∈ zs
  · rw [decide_eq_true h, List.any_eq_true]
    exact ⟨w, h, by show ((some (w == w)).getD false) = true; simp⟩
  · rw [decide_eq_false h, List.any_eq_false]
    intro z hz e
    have : (z == w) = true := e
    rw [beq_iff_eq] at this
    exact h (this ▸ hz)
def keyF : D → Bool
  | .str z => decide (z ∈ namedL) || sgnF "abcdefghijklmnopqrstuvwxyz" 1 (.str z)
  | _ => false
def sp_is_key : SpD := tells keyF
theorem mono_is_key : MonoSp sp_is_key := mono_tells
theorem len_is_key : ∀ ds s Q E, sp_is_key ds s Q E → ds.length = ["thing"].length := len_tells (p := "thing")
def b_is_key : SD := (dSeq (dIfS (dNot (dTest (dUn (isiF "str") (dVar 0)))) (dRet (dC (.bl false))) dNext)
  (dRet (dOrV (dInC id ["rub", "turn", "next", "back", "left", "right", "wider", "narrower", "plain"] (dVar 0)) (dAndV (dBin (oF eqF) (dCB lenF (dCons (dVar 0) dNil)) (dC (.int 1))) (dBin (oOr (oInS id) (oIn id)) (dVar 0) (dC (.str "abcdefghijklmnopqrstuvwxyz")))))))
theorem one_sign {z : Str} (h : z.length = 1) : ∃ c, z = ⟨#[c]⟩ := by
  obtain ⟨a⟩ := z
  obtain ⟨l⟩ := a
  match l, h with
  | [c], _ => exact ⟨c, rfl⟩
section
variable (ds : List D) (s : Sto) (Q : D → Sto → Prop) (E : XD)
theorem pf_is_key (h : sp_is_key ds s Q E) : b_is_key (endsOf Q) (envD ["thing"] ds) s := by
  obtain ⟨x, rfl, hx, q⟩ := h
  cases x with
  | str z =>
    refine ⟨_, rfl, _, rfl, _, rfl, ?_⟩
    refine ifF ?_
    dsimp only [dNext, dRet, endsOf]
    refine orV_bl (a := decide (z ∈ namedL)) (b := decide ((z.length : Int) = 1) && sgnIn "abcdefghijklmnopqrstuvwxyz" z) (fun P p => ⟨_, rfl, inOk_str (zs := namedL), by rw [show ((namedL).map D.str) = namedL.map D.str from rfl, inAny_str]; exact p⟩) (fun _ P p => andV_bl (a := decide ((z.length : Int) = 1)) (b := sgnIn "abcdefghijklmnopqrstuvwxyz" z) (fun P p => ⟨_, rfl, _, rfl, _, rfl, p⟩) (fun hl P p => ?_) p) ?_
    · have hl' : z.length = 1 := by have := of_decide_eq_true hl; omega
      obtain ⟨c, rfl⟩ := one_sign hl'
      refine ⟨_, rfl, .inl ⟨c, _, rfl, rfl, ?_⟩⟩
      have e : sgnIn "abcdefghijklmnopqrstuvwxyz" ⟨#[c]⟩ = decide (c ∈ (("abcdefghijklmnopqrstuvwxyz" : Str)).cps.toList) := by
        unfold sgnIn; simp
      rw [e] at p
      exact p
    · have e : keyF (.str z) = (decide (z ∈ namedL) || (decide ((z.length : Int) = 1) && sgnIn "abcdefghijklmnopqrstuvwxyz" z)) := by
        show (decide (z ∈ namedL) || (sgnIn _ z && (decide (1 ≤ (z.length : Int)) && decide ((z.length : Int) ≤ 1)))) = _
        congr 1
        rw [Bool.and_comm]
        congr 1
        by_cases h : (z.length : Int) = 1
        · rw [decide_eq_true h, decide_eq_true (by omega), decide_eq_true (by omega)]; rfl
        · rw [decide_eq_false h]
          by_cases h2 : 1 ≤ (z.length : Int)
          · rw [decide_eq_false (by omega : ¬ (z.length : Int) ≤ 1)]; simp
          · rw [decide_eq_false h2]; simp
      rw [← e]
      exact q
  | frl _ => cases hx
  | ref _ => cases hx
  | exc _ _ _ => cases hx
  | _ => exact ⟨_, rfl, _, rfl, _, rfl, q⟩
end
end Fi
set_option Elab.async false
set_option linter.all false
set_option autoImplicit false
set_option maxRecDepth 100000
set_option maxHeartbeats 4000000
namespace Dl
open PySem PySem.Spec PyProof.Rows L2
end Dl
set_option Elab.async false
set_option linter.all false
set_option autoImplicit false
set_option maxRecDepth 100000
set_option maxHeartbeats 4000000
namespace Tt
open PySem PySem.Spec PyProof.Rows L2 Dl Bk
def jl (c : Nat) : List (List Nat) → List Nat
  | [] => []
  | [a] => a
  | a :: b :: r => a ++ c :: jl c (b :: r)
theorem app_cps (a b : Str) : (a ++ b).cps.toList = a.cps.toList ++ b.cps.toList := by
  show (a.cps ++ b.cps).toList = _
  simp
theorem join_cps (c : Nat) : ∀ ws : List Str, (Str.join ⟨#[c]⟩ ws).cps.toList = jl c (ws.map fun w => w.cps.toList)
  | [] => rfl
  | [a] => rfl
  | a :: b :: r => by
    show (a ++ (⟨#[c]⟩ : Str) ++ Str.join ⟨#[c]⟩ (b :: r)).cps.toList = _
    rw [app_cps, app_cps, join_cps c (b :: r), List.append_assoc]
    rfl
theorem txt_join (sep : Str) (ys : List Str) : Txt.join sep ys = Str.join sep ys := StrLaws.glued_eq_join _ _
end Tt
set_option Elab.async false
set_option linter.all false
set_option autoImplicit false
set_option maxRecDepth 100000
set_option maxHeartbeats 4000000
namespace Tt
open PySem PySem.Spec PyProof.Rows L2 Dl Bk
open Fa (ifD ifB ifT ifF)
abbrev az : Str := "abcdefghijklmnopqrstuvwxyz"
abbrev AZ : Str := "ABCDEFGHIJKLMNOPQRSTUVWXYZ"
def eqS : D → D → Bool
  | .str x, .str y => x == y
  | _, _ => false
def segF : D → Bool
  | .tup [a, b] => sgnF az 40 a && (sgnF AZ 12 b || eqS b a)
  | _ => false
def lenS : D → Int
  | .str z => z.length
  | _ => 0
def segLen : D → Int
  | .tup [a, _] => lenS a
  | _ => 0
def atOk (n : Nat) : D → Bool
  | .int i => !decide ((if (n : Int) - 1 > 0 then (n : Int) - 1 else 0) < i)
  | _ => false
def stateF : D → Bool
  | .tup [.tup segs, a, t] => segs.all segF && (isCnt a && (isSm t && (atOk segs.length a && decide (lenS t + (segs.map segLen).sum ≤ 40))))
  | _ => false
def sp_is_segment : SpD := tells segF
def sp_is_state : SpD := tells stateF
theorem mono_is_segment : MonoSp sp_is_segment := mono_tells
theorem len_is_segment : ∀ ds s Q E, sp_is_segment ds s Q E → ds.length = ["thing"].length := len_tells (p := "thing")
theorem mono_is_state : MonoSp sp_is_state := mono_tells
theorem len_is_state : ∀ ds s Q E, sp_is_state ds s Q E → ds.length = ["thing"].length := len_tells (p := "thing")
def b_is_segment : SD := (dSeq (dIfS (dOr (dNot (dTest (dUn (isiF "tuple") (dVar 0)))) (dOr (dTest (dBin (oF neF) (dCB lenF (dCons (dVar 0) dNil)) (dC (.int 2)))) (dNot (dTest (dCall sp_is_reading [] (dCons (dBin (oF idxF) (dVar 0) (dC (.int 0))) dNil)))))) (dRet (dC (.bl false))) dNext)
  (dRet (dOrV (dCall sp_is_writing [] (dCons (dBin (oF idxF) (dVar 0) (dC (.int 1))) dNil)) (dAndV (dUn (isiF "str") (dBin (oF idxF) (dVar 0) (dC (.int 1)))) (dBin (oF eqF) (dBin (oF idxF) (dVar 0) (dC (.int 1))) (dBin (oF idxF) (dVar 0) (dC (.int 0))))))))
def b_is_state : SD := (dSeq (dIfS (dOr (dNot (dTest (dUn (isiF "tuple") (dVar 0)))) (dOr (dTest (dBin (oF neF) (dCB lenF (dCons (dVar 0) dNil)) (dC (.int 3)))) (dNot (dTest (dUn (isiF "tuple") (dBin (oF idxF) (dVar 0) (dC (.int 0)))))))) (dRet (dC (.bl false))) dNext)
  (dSeq (dAsg (dVar 0) (gTs [1, 2, 3]))
  (dSeq (dIfS (dOr (dNot (dTest (dCB allF (dCons (dLc (iW (dVar 1)) (CT.g (.one 4)) dYes (dCall sp_is_segment [] (dCons (dVar 4) dNil)) [4]) dNil)))) (dOr (dNot (dTest (dCall sp_is_count [] (dCons (dVar 2) dNil)))) (dNot (dTest (dCall sp_is_small [] (dCons (dVar 3) dNil)))))) (dRet (dC (.bl false))) dNext)
  (dSeq (dIfS (dTest (dBin (oF gtBF) (dVar 2) (dCB max2F (dCons (dC (.int 0)) (dCons (dBin (oF subF) (dCB lenF (dCons (dVar 1) dNil)) (dC (.int 1))) dNil))))) (dRet (dC (.bl false))) dNext)
  (dRet (dBin (oF leF) (dBin (oF addF) (dCB lenF (dCons (dVar 3) dNil)) (dCB sumF (dCons (dLc (iW (dVar 1)) (CT.g (.many [5, 6])) dYes (dCB lenF (dCons (dVar 5) dNil)) [5, 6]) dNil))) (dC (.int 40))))))))
theorem sgn_str {r : Str} {m : Int} {x : D} (h : sgnF r m x = true) : ∃ z, x = .str z ∧ sgnIn r z = true ∧ 1 ≤ z.length ∧ (z.length : Int) ≤ m := by
  cases x with
  | str z =>
    have h' : (sgnIn r z && (decide (1 ≤ (z.length : Int)) && decide ((z.length : Int) ≤ m))) = true := h
    simp only [Bool.and_eq_true, decide_eq_true_iff] at h'
    exact ⟨z, rfl, h'.1, by omega, h'.2.2⟩
  | _ => cases h
theorem seg_shape {x : D} (h : segF x = true) : ∃ r w : Str, x = .tup [.str r, .str w] ∧ sgnIn az r = true ∧ 1 ≤ r.length ∧ r.length ≤ 40 ∧ (sgnF AZ 12 (.str w) = true ∨ w = r) := by
  match x, h with
  | .tup [a, b], h =>
    have h' : (sgnF az 40 a && (sgnF AZ 12 b || eqS b a)) = true := h
    rw [Bool.and_eq_true, Bool.or_eq_true] at h'
    obtain ⟨h1, h2⟩ := h'
    obtain ⟨r, rfl, a1, a2, a3⟩ := sgn_str h1
    rcases h2 with h2 | h2
    · obtain ⟨w, rfl, _⟩ := sgn_str h2
      exact ⟨r, w, rfl, a1, a2, by omega, .inl h2⟩
    · cases b with
      | str w => exact ⟨r, w, rfl, a1, a2, by omega, .inr (eq_of_beq h2)⟩
      | _ => cases h2
section
variable (ds : List D) (s : Sto) (Q : D → Sto → Prop) (E : XD)
theorem pf_is_segment (h : sp_is_segment ds s Q E) : b_is_segment (endsOf Q) (envD ["thing"] ds) s := by
  obtain ⟨x, rfl, hx, q⟩ := h
  cases x with
  | tup xs =>
    obtain ⟨_, hxs⟩ := sz_tup.mp hx
    by_cases h2 : ∃ a b, xs = [a, b]
    · obtain ⟨a, b, rfl⟩ := h2
      have ha := hxs a (by simp)
      have hb := hxs b (by simp)
      refine ⟨_, rfl, _, rfl, _, rfl, _, rfl, _, rfl, _, rfl, _, rfl, ?_⟩
      refine ⟨_, rfl, _, rfl, a, rfl, ha, _, rfl, ?_⟩
      cases e : sgnF az 40 a with
      | false =>
        have e2 : segF (.tup [a, b]) = false := by show (sgnF az 40 a && _) = false; rw [e]; rfl
        rw [e2] at q
        exact q
      | true =>
        have e2 : segF (.tup [a, b]) = (sgnF AZ 12 b || eqS b a) := by show (sgnF az 40 a && _) = _; rw [e]; rfl
        rw [e2] at q
        obtain ⟨r, rfl, _⟩ := sgn_str e
        refine ifF ?_
        dsimp only [dNext, dRet, endsOf]
        refine orV_bl (fun P p => ⟨_, rfl, _, rfl, b, rfl, hb, p⟩) (fun _ P p => ?_) q
        cases b with
        | str w => exact ⟨_, rfl, _, rfl, _, rfl, true, rfl, ifT ⟨_, rfl, _, rfl, _, rfl, _, rfl, _, eq_ss, p⟩⟩
        | frl _ => cases hb
        | ref _ => cases hb
        | exc _ _ _ => cases hb
        | _ => exact ⟨_, rfl, _, rfl, _, rfl, false, rfl, p⟩
    · have hl : xs.length ≠ 2 := fun h => h2 (by
        match xs, h with
        | [a, b], _ => exact ⟨a, b, rfl⟩)
      have hw : segF (.tup xs) = false := by
        unfold segF
        split
        · rename_i h; cases h; exact absurd ⟨_, _, rfl⟩ h2
        · rfl
      rw [hw] at q
      have hl' : (!(((xs.length : Nat) : Int) == 2)) = true := by
        have : ¬ ((xs.length : Nat) : Int) = 2 := by omega
        simp [this]
      refine ⟨_, rfl, _, rfl, _, rfl, _, rfl, _, rfl, _, ne_ii, _, rfl, ?_⟩
      rw [hl']
      exact q
  | frl _ => cases hx
  | ref _ => cases hx
  | exc _ _ _ => cases hx
  | _ => exact ⟨_, rfl, _, rfl, _, rfl, q⟩
end
theorem all_tellsT {env : En} {s : Sto} {Q : D → Sto → Prop} {te : ED} {i j : Nat} {xs : List D} (f : D → Bool) (hi : env[i]? = some (some (.tup xs))) (hl : xs.length ≤ NN) (hte : ∀ d ∈ xs, ∀ P : D → Sto → Prop, P (.bl (f d)) s → te ((wipeE env [j]).set j (some d)) s P)
    (q : Q (.bl (xs.all f)) s) : dCB allF (dCons (dLc (iW (dVar i)) (CT.g (.one j)) dYes te [j]) dNil) env s Q := by
  refine ⟨_, hi, _, _, isW_tup, le_line hl, ?_⟩
  refine lcD_pure (fun _ => true) (fun d => .bl (f d)) trivial (fun d hd k1 k0 h1 h0 => hte d hd _ (h1 rfl)) ?_
  refine ⟨.bl (xs.all f), ?_, q⟩
  rw [List.filter_eq_self.mpr (fun _ _ => rfl)]
  have e : xs.map (fun d => D.bl (f d)) = (xs.map f).map D.bl := by rw [List.map_map]; rfl
  rw [e, all_l, List.all_map]
  rfl
theorem sum_ls (l : List Int) {s : Sto} : sumF s [.lst (l.map D.int)] = some (.int l.sum) := by
  show (match seqL s (.lst (l.map D.int)) with | some ds => (intsOf ds).map fun (bs : List Int) => D.int bs.sum | none => none) = _
  rw [seqL_lst]
  show (intsOf (l.map D.int)).map _ = _
  rw [intsOf_map]
  rfl
section
variable (ds : List D) (s : Sto) (Q : D → Sto → Prop) (E : XD)
theorem pf_is_state (h : sp_is_state ds s Q E) : b_is_state (endsOf Q) (envD ["thing", "segments", "at", "tail", "segment", "reading", "writing"] ds) s := by
  obtain ⟨x, rfl, hx, q⟩ := h
  cases x with
  | tup xs =>
    obtain ⟨_, hxs⟩ := sz_tup.mp hx
    by_cases h3 : ∃ a b c, xs = [a, b, c]
    · obtain ⟨a, b, c, rfl⟩ := h3
      have ha := hxs a (by simp)
      have hb := hxs b (by simp)
      have hc := hxs c (by simp)
      refine ⟨_, rfl, _, rfl, _, rfl, _, rfl, _, rfl, _, rfl, _, rfl, ?_⟩
      refine ⟨_, rfl, _, rfl, ?_⟩
      cases a with
      | tup segs =>
        obtain ⟨hsl, hss⟩ := sz_tup.mp ha
        refine ⟨_, rfl, _, rfl, ifF ?_⟩
        dsimp only [dNext]
        refine ⟨_, rfl, _, rfl, rfl, ?_⟩
        refine all_tellsT segF rfl hsl (fun d hd P p => ⟨_, rfl, d, rfl, hss d hd, p⟩) ⟨_, rfl, ?_⟩
        cases e1 : segs.all segF with
        | false =>
          have e : stateF (.tup [.tup segs, b, c]) = false := by show (segs.all segF && _) = _; rw [e1]; rfl
          rw [e] at q
          exact q
        | true =>
          have e : stateF (.tup [.tup segs, b, c]) = (isCnt b && (isSm c && (atOk segs.length b && decide (lenS c + (segs.map segLen).sum ≤ 40)))) := by show (segs.all segF && _) = _; rw [e1]; rfl
          rw [e] at q
          refine ifF ⟨_, rfl, b, rfl, hb, _, rfl, ?_⟩
          cases e2 : isCnt b with
          | false => rw [e2] at q; exact q
          | true =>
            rw [e2, Bool.true_and] at q
            refine ifF ⟨_, rfl, c, rfl, hc, _, rfl, ?_⟩
            cases e3 : isSm c with
            | false => rw [e3] at q; exact q
            | true =>
              rw [e3, Bool.true_and] at q
              refine ifF ?_
              dsimp only [dNext]
              have hb' : ∃ i, b = .int i := by cases b <;> first | exact ⟨_, rfl⟩ | cases e2
              obtain ⟨i, rfl⟩ := hb'
              have hc' : ∃ t, c = .str t := by cases c <;> first | exact ⟨_, rfl⟩ | cases e3
              obtain ⟨t, rfl⟩ := hc'
              refine ⟨_, rfl, _, rfl, _, rfl, _, rfl, _, rfl, _, rfl, _, rfl, ?_⟩
              refine ifD (fun hat => ?_) fun hat => ?_
              · have e4 : atOk segs.length (.int i) = false := by show (!decide _) = _; rw [decide_eq_true hat]; rfl
                rw [e4, Bool.false_and] at q
                exact q
              · have e4 : atOk segs.length (.int i) = true := by show (!decide _) = _; rw [decide_eq_false hat]; rfl
                rw [e4, Bool.true_and] at q
                dsimp only [dNext]
                refine ⟨_, rfl, _, rfl, _, rfl, _, _, isW_tup, le_line hsl, ?_⟩
                refine lcD_pure (fun _ => true) (fun d => .int (segLen d)) trivial (fun d hd k1 k0 h1 h0 => ?_) ?_
                · obtain ⟨r, w, rfl, _⟩ := seg_shape (List.all_eq_true.mp e1 d hd)
                  exact ⟨_, rfl, rfl, _, rfl, _, rfl, h1 rfl⟩
                · rw [List.filter_eq_self.mpr (fun _ _ => rfl)]
                  rw [show segs.map (fun d => D.int (segLen d)) = (segs.map segLen).map D.int by rw [List.map_map]; rfl]
                  exact ⟨_, sum_ls _, _, rfl, _, rfl, q⟩
      | frl _ => cases ha
      | ref _ => cases ha
      | exc _ _ _ => cases ha
      | _ => exact ⟨_, rfl, _, rfl, q⟩
    · have hl : xs.length ≠ 3 := fun h => h3 (by
        match xs, h with
        | [a, b, c], _ => exact ⟨a, b, c, rfl⟩)
      have hw : stateF (.tup xs) = false := by
        unfold stateF
        split
        · rename_i h; cases h; exact absurd ⟨_, _, _, rfl⟩ h3
        · rfl
      rw [hw] at q
      have hl' : (!(((xs.length : Nat) : Int) == 3)) = true := by
        have : ¬ ((xs.length : Nat) : Int) = 3 := by omega
        simp [this]
      refine ⟨_, rfl, _, rfl, _, rfl, _, rfl, _, rfl, _, ne_ii, _, rfl, ?_⟩
      rw [hl']
      exact q
  | frl _ => cases hx
  | ref _ => cases hx
  | exc _ _ _ => cases hx
  | _ => exact ⟨_, rfl, _, rfl, _, rfl, q⟩
end
end Tt
set_option Elab.async false
set_option linter.all false
set_option autoImplicit false
set_option maxRecDepth 100000
set_option maxHeartbeats 4000000
namespace Tt
open PySem PySem.Spec PyProof.Rows L2 Dl Bk
open Fa (ifD ifB ifT ifF)
def segD (p : Str × Str) : D := .tup [.str p.1, .str p.2]
def stD (segs : List (Str × Str)) (i : Int) (t : Str) : D := .tup [.tup (segs.map segD), .int i, .str t]
structure Stb (segs : List (Str × Str)) (i : Int) (t : Str) : Prop where
  n : segs.length ≤ 40
  p : ∀ p ∈ segs, p.1.length ≤ 40 ∧ p.2.length ≤ 40
  i0 : 0 ≤ i
  i1 : i ≤ 40
  t : t.length ≤ 40
theorem int_short {i : Int} (h0 : 0 ≤ i) (h1 : i ≤ 40) : (Str.ofString (toString i)).length ≤ 2 := by
  obtain ⟨n, rfl⟩ : ∃ n : Nat, i = n := ⟨i.toNat, by omega⟩
  have : ∀ n : Nat, n < 41 → (Str.ofString (toString ((n : Nat) : Int))).length ≤ 2 := by decide +kernel
  exact this n (by omega)
theorem app_len (a b : Str) : (a ++ b).length = a.length + b.length := by
  have := congrArg List.length (app_cps a b)
  simpa [Str.length] using this
end Tt
set_option Elab.async false
set_option linter.all false
set_option autoImplicit false
set_option maxRecDepth 100000
set_option maxHeartbeats 4000000
namespace Tt
open PySem PySem.Spec PyProof.Rows L2 Dl Bk
open Fa (ifD ifB ifT ifF)
theorem cutD_toNeg {α : Type} {xs : List α} {k : Nat} (h1 : 1 ≤ k) (h2 : k ≤ xs.length) : Dl.cutD xs none (some (-(k : Int))) = xs.take (xs.length - k) := by
  unfold Dl.cutD
  rw [sIx_n]
  have e : HT.sIx xs.length xs.length (some (-(k : Int))) = xs.length - k := by
    show (if (-(k : Int)) < 0 then (-(k : Int) + (xs.length : Int)).toNat else _) = _
    rw [if_pos (by omega)]; omega
  rw [e, List.drop_zero, Nat.sub_zero]
end Tt
set_option Elab.async false
set_option linter.all false
set_option autoImplicit false
set_option maxRecDepth 100000
set_option maxHeartbeats 4000000
namespace Tt
open PySem PySem.Spec PyProof.Rows L2 Dl Bk
open Fa (ifD ifB ifT ifF)
structure StOk (segs : List (Str × Str)) (i : Int) (t : Str) : Prop where
  seg : ∀ p ∈ segs, sgnIn az p.1 = true ∧ 1 ≤ p.1.length ∧ p.1.length ≤ 40 ∧ (sgnF AZ 12 (.str p.2) = true ∨ p.2 = p.1)
  i0 : 0 ≤ i
  at_ : i ≤ (if (segs.length : Int) - 1 > 0 then (segs.length : Int) - 1 else 0)
  ts : sgnIn az t = true
  sum : (t.length : Int) + (segs.map fun p => (p.1.length : Int)).sum ≤ 40
theorem sum_len : ∀ {l : List (Str × Str)}, (∀ p ∈ l, 1 ≤ p.1.length) → (l.length : Int) ≤ (l.map fun p => (p.1.length : Int)).sum
  | [], _ => Int.le_refl _
  | p :: l, h => by
    rw [List.map_cons, List.sum_cons, List.length_cons]
    have h1 := h p List.mem_cons_self
    have h2 := sum_len fun q hq => h q (List.mem_cons_of_mem p hq)
    push_cast
    omega
theorem StOk.b {segs : List (Str × Str)} {i : Int} {t : Str} (h : StOk segs i t) : Stb segs i t := by
  have hs := sum_len fun p hp => (h.seg p hp).2.1
  have h1 := h.sum
  have h2 := h.at_
  refine ⟨by omega, fun p hp => ⟨(h.seg p hp).2.2.1, ?_⟩, h.i0, by split at h2 <;> omega, ?_⟩
  · rcases (h.seg p hp).2.2.2 with e | e
    · obtain ⟨z, ez, _, _, h3⟩ := sgn_str e
      cases ez
      omega
    · rw [e]; exact (h.seg p hp).2.2.1
  · have : (0 : Int) ≤ (segs.map fun p => (p.1.length : Int)).sum := by omega
    omega
theorem segLen_sum (segs : List (Str × Str)) : ((segs.map segD).map segLen).sum = (segs.map fun p => (p.1.length : Int)).sum := by
  rw [List.map_map]; rfl
theorem StOk.st {segs : List (Str × Str)} {i : Int} {t : Str} (h : StOk segs i t) : stateF (stD segs i t) = true := by
  show ((segs.map segD).all segF && (isCnt (.int i) && (isSm (.str t) && (atOk (segs.map segD).length (.int i) && decide (lenS (.str t) + ((segs.map segD).map segLen).sum ≤ 40))))) = true
  have e1 : (segs.map segD).all segF = true := by
    rw [List.all_map, List.all_eq_true]
    intro p hp
    obtain ⟨h1, h2, h3, h4⟩ := h.seg p hp
    show (sgnF az 40 (.str p.1) && (sgnF AZ 12 (.str p.2) || eqS (.str p.2) (.str p.1))) = true
    have a1 : sgnF az 40 (.str p.1) = true := by
      show (sgnIn az p.1 && (decide (1 ≤ (p.1.length : Int)) && decide ((p.1.length : Int) ≤ 40))) = true
      rw [h1, decide_eq_true (by omega), decide_eq_true (by omega)]; rfl
    have a2 : (sgnF AZ 12 (.str p.2) || eqS (.str p.2) (.str p.1)) = true := by
      rcases h4 with h4 | h4
      · rw [h4]; rfl
      · have : eqS (.str p.2) (.str p.1) = true := by show (p.2 == p.1) = true; rw [h4]; exact beq_self_eq_true _
        rw [this]; exact Bool.or_true _
    rw [a1, a2]; rfl
  have e2 : isCnt (.int i) = true := decide_eq_true h.i0
  have e3 : isSm (.str t) = true := h.ts
  have e4 : atOk (segs.map segD).length (.int i) = true := by
    show (!decide _) = true
    rw [List.length_map, decide_eq_false (by have := h.at_; omega)]; rfl
  have e5 : decide (lenS (.str t) + ((segs.map segD).map segLen).sum ≤ 40) = true := by
    rw [segLen_sum]; exact decide_eq_true h.sum
  rw [e1, e2, e3, e4, e5]; rfl
theorem segs_of : ∀ {xs : List D}, xs.all segF = true → ∃ segs : List (Str × Str), xs = segs.map segD ∧ ∀ p ∈ segs, sgnIn az p.1 = true ∧ 1 ≤ p.1.length ∧ p.1.length ≤ 40 ∧ (sgnF AZ 12 (.str p.2) = true ∨ p.2 = p.1)
  | [], _ => ⟨[], rfl, (fun _ h => nomatch h)⟩
  | x :: xs, h => by
    rw [List.all_cons, Bool.and_eq_true] at h
    obtain ⟨r, w, rfl, h1, h2, h3, h4⟩ := seg_shape h.1
    obtain ⟨segs, rfl, h5⟩ := segs_of h.2
    refine ⟨(r, w) :: segs, rfl, fun p hp => ?_⟩
    rcases List.mem_cons.mp hp with rfl | hp
    · exact ⟨h1, h2, h3, h4⟩
    · exact h5 p hp
theorem ok_of {x : D} (h : stateF x = true) : ∃ segs i t, x = stD segs i t ∧ StOk segs i t := by
  match x, h with
  | .tup [.tup xs, a, b], h =>
    have h' : (xs.all segF && (isCnt a && (isSm b && (atOk xs.length a && decide (lenS b + (xs.map segLen).sum ≤ 40))))) = true := h
    simp only [Bool.and_eq_true, decide_eq_true_iff] at h'
    obtain ⟨h1, h2, h3, h4, h5⟩ := h'
    obtain ⟨segs, rfl, hs⟩ := segs_of h1
    have hb' : ∃ i, a = .int i := by cases a <;> first | exact ⟨_, rfl⟩ | cases h2
    obtain ⟨i, rfl⟩ := hb'
    have hc' : ∃ t, b = .str t := by cases b <;> first | exact ⟨_, rfl⟩ | cases h3
    obtain ⟨t, rfl⟩ := hc'
    rw [segLen_sum] at h5
    have h4' : (!decide ((if ((segs.map segD).length : Int) - 1 > 0 then ((segs.map segD).length : Int) - 1 else 0) < i)) = true := h4
    rw [Bool.not_eq_true', decide_eq_false_iff_not, List.length_map] at h4'
    exact ⟨segs, i, t, rfl, hs, of_decide_eq_true h2, by omega, h3, h5⟩
end Tt
set_option Elab.async false
set_option linter.all false
set_option autoImplicit false
set_option maxRecDepth 100000
set_option maxHeartbeats 4000000
namespace Fb
open PySem PySem.Spec PyProof.Rows L2 Dl Bk
open Fa (ifD ifB ifT ifF two three powOk10 fapp strL strL_length strL_cps txt_join_signs)
end Fb
set_option Elab.async false
set_option linter.all false
set_option autoImplicit false
set_option maxRecDepth 100000
set_option maxHeartbeats 4000000
namespace Fb
open PySem PySem.Spec PyProof.Rows L2 Dl Bk
open Fa (ifD ifB ifT ifF two three powOk10 fapp strL strL_length strL_cps txt_join_signs strL_app str_eq)
def sp__law_reading : SpD := fun ds s Q _ => ∃ (c : Int) (p : Nat) (ws : List D) (j : D) (K : Int) (z : Str) (most : Int), ds = [.ref p, .tup [.lst ws, j], .str z, .int most] ∧ (∀ w ∈ ws, IsW K w) ∧ ws.length ≤ 1000 ∧ sgnIn az z = true ∧ 1 ≤ z.length ∧ z.length ≤ 26 ∧ 1 ≤ most ∧ most ≤ 100 ∧ Ps c p s ∧ c ≤ 10000000 ∧
  ∀ (t : Str) s', sgnIn az t = true → 1 ≤ t.length → (t.length : Int) ≤ most → Ps (c + 1000) p s' → Kp p s s' → s'.length = s.length → Q (.str t) s'
def b__law_reading : SD := (dSeq (dAsg (dBin (oF idxF) (dLst (dCons (dBin (oF addF) (dC (.int 1)) (dCall sp__law_take [] (dCons (dVar 0) (dCons (dC (.int 6)) dNil)))) (dCons (dBin (oF addF) (dC (.int 1)) (dCall sp__law_take [] (dCons (dVar 0) (dCons (dVar 3) dNil)))) (dCons (dVar 3) dNil)))) (dCall sp__law_take [] (dCons (dVar 0) (dCons (dC (.int 3)) dNil)))) (gN 4))
  (dSeq (dAsg (dC (.str "")) (gN 5))
  (dSeq (dWhile (dTest (dBin (oF ltF) (dCB lenF (dCons (dVar 5) dNil)) (dVar 4))) (dSeq (dAsg (dLst (dCons (dBin (oF idxF) (dVar 2) (dCall sp__law_take [] (dCons (dVar 0) (dCons (dCB lenF (dCons (dVar 2) dNil)) dNil)))) dNil)) (gN 6))
  (dSeq (dIfS (dAnd (dTest (dBin (oF neF) (dBin (oF idxF) (dVar 1) (dC (.int 0))) (dLst dNil))) (dTest (dBin (oF gtBF) (dCall sp__law_take [] (dCons (dVar 0) (dCons (dC (.int 4)) dNil))) (dC (.int 0))))) (dAsg (dLst (dCons (dBin (oF idxF) (dBin (oF idxF) (dBin (oF idxF) (dVar 1) (dC (.int 0))) (dCall sp__law_take [] (dCons (dVar 0) (dCons (dCB lenF (dCons (dBin (oF idxF) (dVar 1) (dC (.int 0))) dNil)) dNil)))) (dC (.int 0))) dNil)) (gN 6)) dNext)
  (dAsg (dBin (oF addF) (dVar 5) (dBin (oF idxF) (dVar 6) (dC (.int 0)))) (gN 5)))))
  (dRet (dSl (dVar 5) dNoP (dP (dCB min2F (dCons (dVar 4) (dCons (dVar 3) dNil)))))))))
theorem mono__law_reading : MonoSp sp__law_reading := fun _ _ _ _ _ _ f _ ⟨c, p, ws, j, K, z, m, h1, h2, h3, h4, h5, h6, h7, h8, h9, h10, h⟩ => ⟨c, p, ws, j, K, z, m, h1, h2, h3, h4, h5, h6, h7, h8, h9, h10, fun t s' a1 a2 a3 a4 a5 a6 => f _ _ (h t s' a1 a2 a3 a4 a5 a6)⟩
theorem len__law_reading : ∀ ds s Q E, sp__law_reading ds s Q E → ds.length = ["pot", "book", "letters", "most"].length := fun _ _ _ _ ⟨_, _, _, _, _, _, _, h, _⟩ => by rw [h]; rfl
theorem sgn_app {r : Str} {l m : List Nat} (h : sgnIn r (strL l) = true) (g : sgnIn r (strL m) = true) : sgnIn r (strL (l ++ m)) = true := by
  unfold sgnIn at h g ⊢
  rw [strL_cps] at h g ⊢
  rw [List.all_append, h, g]; rfl
section
variable (ds : List D) (s : Sto) (Q : D → Sto → Prop) (E : XD)
theorem pf__law_reading (h : sp__law_reading ds s Q E) : b__law_reading (endsOf Q) (envD ["pot", "book", "letters", "most", "many", "found", "some"] ds) s := by
  obtain ⟨c, p, ws, jn, K, z, most, rfl, hW, hwl, hz, z1, z2, m0, m1, S, hc, q⟩ := h
  refine ⟨_, rfl, c, p, 6, rfl, S, by omega, by decide, by decide, fun i1 s1 a1 b1 S1 K1 l1 => ⟨_, rfl, ?_⟩⟩
  refine ⟨_, rfl, _, rfl, _, p, most, rfl, S1, by omega, by omega, by omega, fun i2 s2 a2 b2 S2 K2 l2 => ⟨_, rfl, _, rfl, Dl.ll, ?_⟩⟩
  refine ⟨_, rfl, _, p, 3, rfl, S2, by omega, by decide, by decide, fun i3 s3 a3 b3 S3 K3 l3 => ?_⟩
  obtain ⟨y, hy, hm⟩ := three (a := D.int (1 + i1)) (b := .int (1 + i2)) (c := .int most) a3 b3
  have hy' : ∃ m : Int, y = .int m ∧ 1 ≤ m ∧ m ≤ 100 := by
    rcases hm with rfl | rfl | rfl
    · exact ⟨_, rfl, by omega, by omega⟩
    · exact ⟨_, rfl, by omega, by omega⟩
    · exact ⟨_, rfl, by omega, by omega⟩
  obtain ⟨many, rfl, y0, y1⟩ := hy'
  refine ⟨_, hy, ?_⟩
  refine ⟨fun m env s' => ∃ (l : List Nat) (o : Option D), m = (many - l.length).toNat ∧ env = [some (.ref p), some (.tup [.lst ws, jn]), some (.str z), some (.int most), some (.int many), some (.str (strL l)), o] ∧ sgnIn az (strL l) = true ∧ (l.length : Int) ≤ many + 40 ∧ Ps (c + 3 + 3 * l.length) p s' ∧ Kp p s s' ∧ s'.length = s.length, ⟨_, [], none, rfl, rfl, rfl, by simp; omega, S3.up (by simp; omega), K1.trans (K2.trans K3), by omega⟩, ?_⟩
  rintro m env s' ⟨l, o, rfl, rfl, hl, hll, S4, K4, l4⟩
  refine ⟨_, rfl, _, rfl, _, rfl, _, rfl, _, rfl, ?_⟩
  rw [strL_length]
  refine ifD (fun hlt => ?_) fun hge => ?_
  · refine ⟨fun env2 s2 => ∃ (l2 : List Nat) (o : Option D), l.length < l2.length ∧ env2 = [some (.ref p), some (.tup [.lst ws, jn]), some (.str z), some (.int most), some (.int many), some (.str (strL l2)), o] ∧ sgnIn az (strL l2) = true ∧ (l2.length : Int) ≤ many + 40 ∧ Ps (c + 3 + 3 * l2.length) p s2 ∧ Kp p s s2 ∧ s2.length = s.length, ?_, ?_⟩
    · rintro e2 s2 ⟨l2, o2, h1, rfl, h2, h3, h4, h5, h6⟩
      exact ⟨_, by omega, l2, o2, rfl, rfl, h2, h3, h4, h5, h6⟩
    · have fin : ∀ (u : Str) (sx : Sto), sgnIn az u = true → 1 ≤ u.length → u.length ≤ 40 → Ps (c + 3 + 3 * l.length + 3) p sx → Kp p s sx → sx.length = s.length → (dAsg (dBin (oF addF) (dVar 5) (dBin (oF idxF) (dVar 6) (dC (.int 0)))) (gN 5)) ⟨fun env2 s2 => ∃ (l2 : List Nat) (o : Option D), l.length < l2.length ∧ env2 = [some (.ref p), some (.tup [.lst ws, jn]), some (.str z), some (.int most), some (.int many), some (.str (strL l2)), o] ∧ sgnIn az (strL l2) = true ∧ (l2.length : Int) ≤ many + 40 ∧ Ps (c + 3 + 3 * l2.length) p s2 ∧ Kp p s s2 ∧ s2.length = s.length, Q, fun _ _ => False, fun _ _ => False⟩ [some (.ref p), some (.tup [.lst ws, jn]), some (.str z), some (.int most), some (.int many), some (.str (strL l)), some (.lst [.str u])] sx := fun u sx hu u1 u2 Sx Kx lx => by
        have eu : strL l ++ u = strL (l ++ u.cps.toList) := by
          conv => lhs; rw [str_eq u]
          exact strL_app _ _
        have ul : u.cps.toList.length = u.length := by simp [Str.length]
        refine ⟨_, rfl, _, rfl, _, rfl, _, adds (le_line (by rw [strL_length]; omega)), ?_⟩
        refine ⟨l ++ u.cps.toList, _, by rw [List.length_append]; omega, by rw [eu]; rfl, ?_, by rw [List.length_append]; push_cast; omega, Sx.up (by rw [List.length_append]; push_cast; omega), Kx, lx⟩
        exact sgn_app hl (by rw [← str_eq u]; exact hu)
      have sgl : ∀ x ∈ z.cps.toList, sgnIn az ⟨#[x]⟩ = true := fun x hx => sgnIn_of (l := [x]) hz (fun c hc => by rw [List.mem_singleton.mp hc]; exact hx)
      refine ⟨_, rfl, _, rfl, _, rfl, _, rfl, _, p, _, rfl, S4, by omega, by omega, by omega, fun i5 s5 a5 b5 S5 K5 l5 => ?_⟩
      obtain ⟨x, hx, mx⟩ := atI_mem (xs := z.cps.toList) a5 (by rw [Array.length_toList]; exact b5)
      refine ⟨_, by rw [idx_s, hx]; rfl, Dl.ll, ?_⟩
      have one : ∀ sx, Ps (c + 3 + 3 * l.length + 3) p sx → Kp p s sx → sx.length = s.length → _ := fun sx Sx Kx lx => fin ⟨#[x]⟩ sx (sgl x mx) (Nat.le_refl 1) (by show 1 ≤ 40; decide) Sx Kx lx
      refine ⟨_, rfl, _, rfl, Nat.zero_le _, _, ne_l0, _, rfl, ifB (fun hne => ?_) fun _ => ?_⟩
      · have hpos : ws ≠ [] := by simpa using hne
        have hwp : 0 < ws.length := List.length_pos_iff.mpr hpos
        refine ⟨_, rfl, _, p, 4, rfl, S5, by omega, by decide, by decide, fun i6 s6 a6 b6 S6 K6 l6 => ⟨_, rfl, _, rfl, ifD (fun _ => ?_) fun _ => ?_⟩⟩
        · refine ⟨_, rfl, _, rfl, _, rfl, _, rfl, _, rfl, _, rfl, _, p, _, rfl, S6, by omega, by omega, by omega, fun i7 s7 a7 b7 S7 K7 l7 => ?_⟩
          obtain ⟨w, hw, mw⟩ := atI_mem (xs := ws) a7 b7
          obtain ⟨r, wr, cc, kk, rfl, ok⟩ := hW w mw
          refine ⟨_, hw, _, rfl, Dl.ll, fin r s7 ok.r1 ok.r2 ok.r3 (S7.up (by omega)) (K4.trans (K5.trans (K6.trans K7))) (by omega)⟩
        · exact one s6 (S6.up (by omega)) (K4.trans (K5.trans K6)) (by omega)
      · exact one s5 (S5.up (by omega)) (K4.trans K5) (by omega)
  · have hmin : (if most < many then most else many) = min many most := by
      rw [Int.min_def]; split <;> split <;> omega
    refine ⟨_, rfl, _, rfl, _, rfl, _, rfl, _, rfl, _, rfl, ?_⟩
    have e : (⟨(cutD (strL l).cps.toList none (some (if most < many then most else many))).toArray⟩ : Str) = strL (l.take (if most < many then most else many).toNat) := by
      rw [strL_cps, cutD_to (by split <;> omega)]; rfl
    rw [e]
    have tl : (l.take (if most < many then most else many).toNat).length = (if most < many then most else many).toNat := by
      rw [List.length_take]; split <;> omega
    refine q _ s' (sgnIn_of hl fun x hx => ?_) (by rw [strL_length, tl]; split <;> omega) (by rw [strL_length, tl]; split <;> omega) (S4.up (by omega)) K4 l4
    rw [strL_cps]
    exact List.mem_of_mem_take hx
end
end Fb
set_option Elab.async false
set_option linter.all false
set_option autoImplicit false
set_option maxRecDepth 100000
set_option maxHeartbeats 4000000
namespace Fb
open PySem PySem.Spec PyProof.Rows L2 Dl Bk
open Fa (ifD ifB ifT ifF two three powOk10 fapp strL strL_length strL_cps txt_join_signs txt_join_cps strL_app str_eq)
theorem cps_len (r : Str) : r.cps.toList.length = r.length := by simp [Str.length]
end Fb
set_option Elab.async false
set_option linter.all false
set_option autoImplicit false
set_option maxRecDepth 100000
set_option maxHeartbeats 4000000
namespace Fb
open PySem PySem.Spec PyProof.Rows L2 Dl Bk
open Fa (ifD ifB ifT ifF two three powOk10 fapp strL strL_length strL_cps txt_join_signs txt_join_cps strL_app str_eq)
end Fb
set_option Elab.async false
set_option linter.all false
set_option autoImplicit false
set_option maxRecDepth 100000
set_option maxHeartbeats 4000000
namespace Fb
open PySem PySem.Spec PyProof.Rows L2 Dl Bk
open Fa (ifD ifB ifT ifF two three powOk10 fapp strL strL_length strL_cps txt_join_signs txt_join_cps strL_app str_eq)
/-- small things: shown in a few signs -/
structure Small (n d : Nat) (x : D) : Prop where
  t : tame x = true
  w : wt x ≤ n
  d : deep x ≤ d
theorem Small.up {n d m e : Nat} {x : D} (h : Small n d x) (h1 : n ≤ m) (h2 : d ≤ e) : Small m e x := ⟨h.t, Nat.le_trans h.w h1, Nat.le_trans h.d h2⟩
def jn (rows : List D) (i j : Nat) : Int := match rows[i]? with
  | some (.lst js) => (match js[j]? with
    | some (.int v) => v
    | _ => 0)
  | _ => 0
def cs : D → Int
  | .tup [_, _, .int c, _] => c
  | _ => 0
end Fb
set_option Elab.async false
set_option linter.all false
set_option autoImplicit false
set_option maxRecDepth 100000
set_option maxHeartbeats 4000000
namespace Fb
open PySem PySem.Spec PyProof.Rows L2 Dl Bk
def chs (z : Str) : Bool := z.cps.toList.all fun c => decide (c < 128)
theorem chs_wide {z : Str} (h : chs z = true) : (z.cps.toList.all fun c => decide (c < 16 ^ 8)) = true := by
  unfold chs at h
  rw [List.all_eq_true] at *
  intro c hc
  have := of_decide_eq_true (h c hc)
  exact decide_eq_true (Nat.lt_of_lt_of_le this (by decide))
/-- {} and {"a": 1} -/
def gdD : List Key → List D → Bool
  | [], [] => true
  | [.inr z], [.int 1] => decide (z = "a")
  | _, _ => false
theorem gdD_iff {ks : List Key} {xs : List D} (h : gdD ks xs = true) : (ks = [] ∧ xs = []) ∨ (ks = [.inr "a"] ∧ xs = [.int 1]) := by
  unfold gdD at h
  split at h
  · exact .inl ⟨rfl, rfl⟩
  · rw [decide_eq_true_iff] at h
    subst h
    exact .inr ⟨rfl, rfl⟩
  · cases h
mutual
/-- texts and rows of at most n parts, numbers of twenty figures and n more -/
def gd (n : Nat) : D → Bool
  | .int i => decide (i.natAbs ≤ 10 ^ 20 + n)
  | .str z => decide (z.length ≤ n) && chs z
  | .tup xs => decide (xs.length ≤ n) && gdL n xs
  | .lst xs => decide (xs.length ≤ n) && gdL n xs
  | .non => true
  | .bl _ => true
  | .dk ks xs => gdD ks xs
  | .frl _ => false
  | .dt _ _ => false
  | .ref _ => false
  | .exc _ _ _ => false
def gdL (n : Nat) : List D → Bool
  | [] => true
  | x :: xs => gd n x && gdL n xs
end
theorem gdL_iff {n : Nat} : ∀ {xs : List D}, gdL n xs = true ↔ ∀ x ∈ xs, gd n x = true
  | [] => ⟨fun _ _ h => (nomatch h), fun _ => rfl⟩
  | x :: xs => by
    rw [gdL, Bool.and_eq_true, gdL_iff]
    exact ⟨fun h y hy => (List.mem_cons.mp hy).elim (fun e => e ▸ h.1) (h.2 y), fun h => ⟨h x List.mem_cons_self, fun y hy => h y (List.mem_cons_of_mem _ hy)⟩⟩
theorem gd_tup {n : Nat} {xs : List D} : gd n (.tup xs) = true ↔ xs.length ≤ n ∧ ∀ x ∈ xs, gd n x = true := by rw [gd, Bool.and_eq_true, gdL_iff, decide_eq_true_iff]
theorem gd_lst {n : Nat} {xs : List D} : gd n (.lst xs) = true ↔ xs.length ≤ n ∧ ∀ x ∈ xs, gd n x = true := by rw [gd, Bool.and_eq_true, gdL_iff, decide_eq_true_iff]
mutual
theorem gd_up {n m : Nat} (h : n ≤ m) : ∀ x : D, gd n x = true → gd m x = true
  | .int i, q => by rw [gd, decide_eq_true_iff] at *; omega
  | .str z, q => by rw [gd, Bool.and_eq_true, decide_eq_true_iff] at *; exact ⟨by omega, q.2⟩
  | .tup xs, q => by rw [gd, Bool.and_eq_true, decide_eq_true_iff] at *; exact ⟨by omega, gdL_up h xs q.2⟩
  | .lst xs, q => by rw [gd, Bool.and_eq_true, decide_eq_true_iff] at *; exact ⟨by omega, gdL_up h xs q.2⟩
  | .non, _ => by rw [gd]
  | .bl _, _ => by rw [gd]
  | .dk _ _, q => by rw [gd] at *; exact q
  | .frl _, q => by rw [gd] at q; cases q
  | .dt _ _, q => by rw [gd] at q; cases q
  | .ref _, q => by rw [gd] at q; cases q
  | .exc _ _ _, q => by rw [gd] at q; cases q
theorem gdL_up {n m : Nat} (h : n ≤ m) : ∀ xs : List D, gdL n xs = true → gdL m xs = true
  | [], _ => rfl
  | x :: xs, q => by
    rw [gdL, Bool.and_eq_true] at *
    exact ⟨gd_up h x q.1, gdL_up h xs q.2⟩
end
mutual
theorem gd_all {n : Nat} (hn : n ≤ 1000000) : ∀ x : D, gd n x = true → szB n x = true ∧ (pyE x).leavesShort 41 = true ∧ (pyE x).showable = true ∧ seqsE x = true
  | .int i, q => by
    rw [gd, decide_eq_true_iff] at q
    have hB : (10 : Nat) ^ 20 ≤ big := by decide
    have h40 : i.natAbs < 10 ^ 40 := by
      have : (10 : Nat) ^ 20 + 1000000 < 10 ^ 40 := by decide
      omega
    refine ⟨by rw [szB, decide_eq_true_iff]; omega, ?_, ?_, rfl⟩
    · rw [pyE, PyData.leavesShort]; exact decide_eq_true (int_short h40)
    · have ht : tame (.int i) = true := decide_eq_true h40
      have := (tame_of (.int i) ht).2.1
      rw [pyE]
      rw [pyD] at this
      exact this
  | .str z, q => by
    rw [gd, Bool.and_eq_true, decide_eq_true_iff] at q
    refine ⟨by rw [szB, decide_eq_true_iff]; exact q.1, ?_, ?_, rfl⟩
    · rw [pyE, PyData.leavesShort]; exact chs_wide q.2
    · rw [pyE]; simp only [PyData.showable]
  | .tup xs, q => by
    rw [gd, Bool.and_eq_true, decide_eq_true_iff] at q
    obtain ⟨h1, h2, h3, h4⟩ := gdL_all hn xs q.2
    refine ⟨by rw [szB, Bool.and_eq_true, decide_eq_true_iff]; exact ⟨q.1, h1⟩, ?_, ?_, h4⟩
    · rw [pyE, PyData.leavesShort]; exact h2
    · rw [pyE, PyData.showable]; exact h3
  | .lst xs, q => by
    rw [gd, Bool.and_eq_true, decide_eq_true_iff] at q
    obtain ⟨h1, h2, h3, h4⟩ := gdL_all hn xs q.2
    refine ⟨by rw [szB, Bool.and_eq_true, decide_eq_true_iff]; exact ⟨q.1, h1⟩, ?_, ?_, h4⟩
    · rw [pyE, PyData.leavesShort]; exact h2
    · rw [pyE, PyData.showable]; exact h3
  | .non, _ => ⟨rfl, by rw [pyE, PyData.leavesShort], by rw [pyE]; simp only [PyData.showable], rfl⟩
  | .bl _, _ => ⟨rfl, by rw [pyE, PyData.leavesShort], by rw [pyE]; simp only [PyData.showable], rfl⟩
  | .dk ks xs, q => by
    rw [gd] at q
    rcases gdD_iff q with ⟨rfl, rfl⟩ | ⟨rfl, rfl⟩
    · exact ⟨rfl, by decide +kernel, by decide +kernel, rfl⟩
    · exact ⟨rfl, by decide +kernel, by decide +kernel, by decide +kernel⟩
  | .frl _, q => by rw [gd] at q; cases q
  | .dt _ _, q => by rw [gd] at q; cases q
  | .ref _, q => by rw [gd] at q; cases q
  | .exc _ _ _, q => by rw [gd] at q; cases q
theorem gdL_all {n : Nat} (hn : n ≤ 1000000) : ∀ xs : List D, gdL n xs = true → szL n xs = true ∧ PyData.leavesShortAll 41 (pyEL xs) = true ∧ PyData.showableAll (pyEL xs) = true ∧ seqsEL xs = true
  | [], _ => ⟨rfl, by rw [pyEL, PyData.leavesShortAll], by rw [pyEL, PyData.showableAll], rfl⟩
  | x :: xs, q => by
    rw [gdL, Bool.and_eq_true] at q
    obtain ⟨a1, a2, a3, a4⟩ := gd_all hn x q.1
    obtain ⟨b1, b2, b3, b4⟩ := gdL_all hn xs q.2
    refine ⟨by rw [szL, a1, b1]; rfl, by rw [pyEL, PyData.leavesShortAll, a2, b2]; rfl, by rw [pyEL, PyData.showableAll, a3, b3]; rfl, by rw [seqsEL, a4, b4]; rfl⟩
end
structure Gd (n w d : Nat) (x : D) : Prop where
  g : gd n x = true
  w : (pyE x).bulk ≤ w
  d : (pyE x).depth ≤ d
theorem Gd.up {n w d n' w' d' : Nat} {x : D} (h : Gd n w d x) (h1 : n ≤ n') (h2 : w ≤ w') (h3 : d ≤ d') : Gd n' w' d' x := ⟨gd_up h1 x h.g, Nat.le_trans h.w h2, Nat.le_trans h.d h3⟩
theorem Gd.len {n w d : Nat} {x : D} (h : Gd n w d x) (hn : n ≤ 1000000) : (rpE x).length ≤ 43 * w + 41 := by
  obtain ⟨_, h2, _, _⟩ := gd_all hn x h.g
  have hb := PyData.shown_le_bulk 41 (by decide) (pyE x) h2
  have := h.w
  show (pyE x).shown.length ≤ _
  omega
theorem bulkEL {w : Nat} : ∀ {xs : List D}, (∀ x ∈ xs, (pyE x).bulk ≤ w) → PyData.bulkAll (pyEL xs) ≤ (w + 1) * xs.length
  | [], _ => by rw [pyEL, PyData.bulkAll]; exact Nat.zero_le _
  | x :: xs, h => by
    have h1 := h x List.mem_cons_self
    have h2 := bulkEL (xs := xs) fun y hy => h y (List.mem_cons_of_mem _ hy)
    rw [pyEL, PyData.bulkAll, List.length_cons, Nat.mul_add, Nat.mul_one]; omega
theorem depthEL {d : Nat} : ∀ {xs : List D}, (∀ x ∈ xs, (pyE x).depth ≤ d) → PyData.depthAll (pyEL xs) ≤ d
  | [], _ => by rw [pyEL, PyData.depthAll]; exact Nat.zero_le _
  | x :: xs, h => by
    have h1 := h x List.mem_cons_self
    have h2 := depthEL (xs := xs) fun y hy => h y (List.mem_cons_of_mem _ hy)
    rw [pyEL, PyData.depthAll]; omega
theorem Gd.lst {n w d m : Nat} {xs : List D} (h : ∀ x ∈ xs, Gd n w d x) (hl : xs.length ≤ m) (hm : m ≤ n) : Gd n ((w + 1) * m) (d + 1) (.lst xs) := by
  refine ⟨gd_lst.mpr ⟨by omega, fun x hx => (h x hx).g⟩, ?_, ?_⟩
  · rw [pyE, PyData.bulk]
    exact Nat.le_trans (bulkEL fun x hx => (h x hx).w) (Nat.mul_le_mul (Nat.le_refl _) hl)
  · rw [pyE, PyData.depth]
    have := depthEL (xs := xs) fun x hx => (h x hx).d
    omega
theorem Gd.tup {n w d m : Nat} {xs : List D} (h : ∀ x ∈ xs, Gd n w d x) (hl : xs.length ≤ m) (hm : m ≤ n) : Gd n ((w + 1) * m) (d + 1) (.tup xs) := by
  refine ⟨gd_tup.mpr ⟨by omega, fun x hx => (h x hx).g⟩, ?_, ?_⟩
  · rw [pyE, PyData.bulk]
    exact Nat.le_trans (bulkEL fun x hx => (h x hx).w) (Nat.mul_le_mul (Nat.le_refl _) hl)
  · rw [pyE, PyData.depth]
    have := depthEL (xs := xs) fun x hx => (h x hx).d
    omega
theorem Gd.int {n : Nat} {i : Int} (h : i.natAbs ≤ 10 ^ 20 + n) : Gd n 0 0 (.int i) := ⟨decide_eq_true h, by rw [pyE, PyData.bulk]; exact Nat.le_refl _, by rw [pyE]; simp [PyData.depth]⟩
theorem Gd.str {n : Nat} {z : Str} (h : z.length ≤ n) (hc : chs z = true) : Gd n n 0 (.str z) := ⟨by rw [gd, hc, decide_eq_true h]; rfl, by rw [pyE, PyData.bulk]; exact h, by rw [pyE]; simp [PyData.depth]⟩
theorem Gd.bl {n : Nat} {b : Bool} : Gd n 0 0 (.bl b) := ⟨rfl, by rw [pyE, PyData.bulk]; exact Nat.le_refl _, by rw [pyE]; simp [PyData.depth]⟩
theorem Gd.non {n : Nat} : Gd n 0 0 .non := ⟨rfl, by rw [pyE, PyData.bulk]; exact Nat.le_refl _, by rw [pyE]; simp [PyData.depth]⟩
theorem Gd.dk {n : Nat} : Gd n 0 1 (.dk [] []) := ⟨rfl, by decide +kernel, by decide +kernel⟩
end Fb
set_option Elab.async false
set_option linter.all false
set_option autoImplicit false
set_option maxRecDepth 100000
set_option maxHeartbeats 4000000
namespace Tt
open PySem PySem.Spec PyProof.Rows L2 Dl
open Fa (ifD ifB ifT ifF)
open Fb (Gd chs)
theorem allO_self {f : D → D → Option Bool} : ∀ {xs : List D}, (∀ x ∈ xs, f x x = some true) → allO f xs xs = some true
  | [], _ => rfl
  | x :: xs, h => by
    show (match f x x, allO f xs xs with | some a, some b => some (a && b) | _, _ => none) = _
    rw [h x List.mem_cons_self, allO_self fun y hy => h y (List.mem_cons_of_mem _ hy)]; rfl
theorem eq_self_lst {n : Nat} {xs : List D} (h : ∀ x ∈ xs, eqN n x x = some true) : eqN (n + 1) (.lst xs) (.lst xs) = some true := by
  show (if xs.length = xs.length then allO (eqN n) xs xs else some false) = _
  rw [if_pos rfl, allO_self h]
theorem eq_self_tup {n : Nat} {xs : List D} (h : ∀ x ∈ xs, eqN n x x = some true) : eqN (n + 1) (.tup xs) (.tup xs) = some true := by
  show (match allO (eqN n) xs xs with | some b => some (b && decide (xs.length = xs.length)) | none => none) = _
  rw [allO_self h]; simp
theorem eq_self_int {n : Nat} {i : Int} : eqN (n + 1) (.int i) (.int i) = some true := by
  show some (i == i) = _
  simp
theorem eq_self_str {n : Nat} {i : Str} : eqN (n + 1) (.str i) (.str i) = some true := by
  show some (i == i) = _
  simp
theorem drf_lst {s : Sto} {xs : List D} : drf s (.lst xs) = .lst xs := rfl
theorem eq_st {n : Nat} {segs : List (Str × Str)} {i : Int} {t : Str} : eqN (n + 4) (stD segs i t) (stD segs i t) = some true := by
  refine eq_self_tup fun x hx => ?_
  rcases (by simpa using hx : x = .tup (segs.map segD) ∨ x = .int i ∨ x = .str t) with rfl | rfl | rfl
  · refine eq_self_tup fun y hy => ?_
    obtain ⟨p, _, rfl⟩ := List.mem_map.mp hy
    refine eq_self_tup fun z hz => ?_
    rcases (by simpa using hz : z = .str p.1 ∨ z = .str p.2) with rfl | rfl <;> exact eq_self_str
  · exact eq_self_int
  · exact eq_self_str
theorem drf_st {s : Sto} {segs : List (Str × Str)} {i : Int} {t : Str} : drf s (stD segs i t) = stD segs i t := rfl
theorem neF_st {s : Sto} {segs : List (Str × Str)} {i : Int} {t : Str} : neF s (stD segs i t) (stD segs i t) = some (.bl false) := by
  unfold neF; rw [drf_st, eq_st (n := 56)]; rfl
theorem st_sz {segs : List (Str × Str)} {i : Int} {t : Str} (B : Stb segs i t) : szB Bk.NN (stD segs i t) = true := by
  refine sz_tup.mpr ⟨by show 3 ≤ 1000000; decide, fun x hx => ?_⟩
  rcases (by simpa using hx : x = .tup (segs.map segD) ∨ x = .int i ∨ x = .str t) with rfl | rfl | rfl
  · refine sz_tup.mpr ⟨by rw [List.length_map]; have := B.n; show _ ≤ 1000000; omega, fun y hy => ?_⟩
    obtain ⟨p, hp, rfl⟩ := List.mem_map.mp hy
    have := B.p p hp
    refine sz_tup.mpr ⟨by show 2 ≤ 1000000; decide, fun z hz => ?_⟩
    rcases (by simpa using hz : z = .str p.1 ∨ z = .str p.2) with rfl | rfl
    · exact sz_str.mpr (by show _ ≤ 1000000; omega)
    · exact sz_str.mpr (by show _ ≤ 1000000; omega)
  · rw [sz_int]
    have := B.i0; have := B.i1
    have : 1000 ≤ big := by decide
    omega
  · exact sz_str.mpr (by have := B.t; show _ ≤ 1000000; omega)
end Tt
set_option Elab.async false
set_option linter.all false
set_option autoImplicit false
set_option maxRecDepth 100000
set_option maxHeartbeats 4000000
namespace Dl
open PySem PySem.Spec PyProof.Rows L2
/-- an own class of exceptions, no fields, over ValueError -/
structure OwnX (K : PySem.W.Frag) (mg : Str → Option Value) (x : Str) (C : Addr) : Prop where
  g : mg x = some (.ref C)
  kp : PySem.W.keepIn K (.ref C) = true
  ex : PySem.W.excIn K C [.type "ValueError", .type "Exception", .type "BaseException", .type "object"] "ValueError.__new__" = true
  b : PySem.W.subIn K (.ref C) (.type "BaseException") = some true
  t : PySem.W.typeIn K (.ref C) = some (.type "type")
section
variable {X : DX}
def dRaise (W : WXD) (x : Str) : SD := fun _ env s => W x [] env s
theorem mono_raise {W : WXD} {x : Str} : MonoS (dRaise W x) := fun _ _ _ _ _ h => h
theorem psd_raise {x m : Str} {C : Addr} {j : Nat} {p p2 pos pos' : Pos} (hc : X.calm = true) (o : OwnX X.K X.mg x C) (hg : Gl X x) (hdb : (x == ("__debug__" : Str)) = false := by decide) :
    PSD X (.Raise (some (.Call (.Name x p) [.Constant (.str m) j p2] [] pos)) none pos') (dRaise X.WD x) :=
  ⟨ps_imp (ps_raise hc X.tk (pmk_own PySem.F.excBase_ValueError o.ex o.g o.kp (raises_own o.b o.t) hg hdb)) fun D σ H ⟨env, s, A, B, w, h⟩ => X.wd x [] env s (.ref C) none σ B H A w o.g (.inl ⟨rfl, rfl⟩) h, mono_raise⟩
end
/-- nothing is raised -/
abbrev noW : WXD := fun _ _ _ _ => False
def WM {α : Type} (t : WXD → En → Sto → (α → Sto → Prop) → Prop) : Prop := ∀ (W W' : WXD) env s Q, (∀ x fs e s', W x fs e s' → W' x fs e s') → t W env s Q → t W' env s Q
def WMS (t : WXD → SD) : Prop := ∀ (W W' : WXD) E env s, (∀ x fs e s', W x fs e s' → W' x fs e s') → t W E env s → t W' E env s
theorem wms_asg {t : WXD → ED} {g : GD} (h : WM t) : WMS (fun W => dAsg (t W) g) := fun W W' E env s f q => h W W' _ _ _ f q
def tTr (K : PySem.W.Frag) (mg : Str → Option Value) (tbD : WXD → SD) (W : WX) : TS := fun Dn σ H => ∃ (Z : List Addr → Hp → List Addr → Sto → Prop) (zc : ∀ {B : List Addr} {H H' : Hp} {A A' : List Addr} {s s' : Sto}, Z B H A s → Ext B H A s H' A' s' → Z B H' A' s') (WD : WXD)
  (_ : ∀ (x : Str) (fs : List (Str × D)) (env : En) (s' : Sto) (cls : Value) (dx : Option Addr) (σ : L2.St) (B : List Addr) (H' : Hp) (A' : List Addr), Wo ⟨K, Z, zc⟩ B H' A' s' env σ → mg x = some cls → XRep K (Fz B H' A' s') A' fs dx → WD x fs env s' → W cls dx σ H'), rdS ⟨K, Z, zc⟩ (tbD WD) Dn σ H
/-- the place of a try's body -/
def dxTr (X : Cx) (pn : List (Addr × Obj)) (xe : Value → Shared → Prop) (W : WX) (tk : Takes (X.tr pn xe) W) (Z : List Addr → Hp → List Addr → Sto → Prop) (zc : ∀ {B : List Addr} {H H' : Hp} {A A' : List Addr} {s s' : Sto}, Z B H A s → Ext B H A s H' A' s' → Z B H' A' s') (WD : WXD)
    (wd : ∀ (x : Str) (fs : List (Str × D)) (env : En) (s' : Sto) (cls : Value) (dx : Option Addr) (σ : L2.St) (B : List Addr) (H' : Hp) (A' : List Addr), Wo ⟨X.K, Z, zc⟩ B H' A' s' env σ → X.mg x = some cls → XRep X.K (Fz B H' A' s') A' fs dx → WD x fs env s' → W cls dx σ H') : DX :=
  { X.tr pn xe with W := W, tk := tk, Z := Z, zc := zc, WD := WD, wd := wd }
end Dl
set_option Elab.async false
set_option linter.all false
set_option autoImplicit false
set_option maxRecDepth 100000
set_option maxHeartbeats 4000000
namespace Dl
open PySem PySem.Spec PyProof.Rows L2
/-- try: tb / except P: ts -/
def dTryO (W : WXD) (hit : Str → Option Bool) (tb : WXD → SD) (ts : SD) : SD := fun E env s => tb (fun x fs env' s' => ∃ b, hit x = some b ∧ (b = true → ts E env' s') ∧ (b = false → W x fs env' s')) E env s
/-- what is known of the clause's class, and of the classes that may be raised -/
structure HitX (K : PySem.W.Frag) (mg : Str → Option Value) (P : Str) (c : Value) (hit : Str → Option Bool) : Prop where
  g : mg P = some c
  h : ∀ x b cls, hit x = some b → mg x = some cls → PySem.W.nsIn K mainGlobals x = some (some cls) ∧ PySem.W.exmOne K cls c = some b
section
variable {X : DX} {i : Nat} {n P : Str} {c : Value} {hit : Str → Option Bool} {tbD : WXD → SD} {ts : SD} {body suite : List Stmt} {b₀ : Stmt} {np pos pos' : Pos}
theorem psd_tryO (B : HitX X.K X.mg P c hit) (hs : X.stack = X.env :: X.outer) (hf : X.env.frame = some X.env.locals)
    (hgP : Gl X P) (hdP : (P == ("__debug__" : Str)) = false) (hW : WMS tbD)
    (hbody : ∀ (pn : List (Addr × Obj)) (xe : Value → Shared → Prop) (W : WX) (tk : Takes (X.toCx.tr pn xe) W) (Z : List Addr → Hp → List Addr → Sto → Prop) (zc : ∀ {B : List Addr} {H H' : Hp} {A A' : List Addr} {s s' : Sto}, Z B H A s → Ext B H A s H' A' s' → Z B H' A' s') (WD : WXD)
      (wd : ∀ (x : Str) (fs : List (Str × D)) (env : En) (s' : Sto) (cls : Value) (dx : Option Addr) (σ : L2.St) (B : List Addr) (H' : Hp) (A' : List Addr), Wo ⟨X.K, Z, zc⟩ B H' A' s' env σ → X.mg x = some cls → XRep X.K (Fz B H' A' s') A' fs dx → WD x fs env s' → W cls dx σ H'), PSsD (dxTr X.toCx pn xe W tk Z zc WD wd) body (tbD WD))
    (hsu : ∀ (a : Addr) (pn : List (Addr × Obj)), PSsD (dx0 (X.toCx.suite a pn)) (b₀ :: suite) ts) :
    PSD X (.Try body [.ExceptHandler (some (.Name P np)) none (b₀ :: suite) pos'] [] [] pos) (dTryO X.WD hit tbD ts) := by
  refine ⟨ps_imp (ps_try_only (Wout := X.W) (tb := tTr X.K X.mg tbD) (ts := fun _ _ _ => rdS (dx0 X.toCx).kk ts) hs hf ⟨hgP, hdP, .inl B.g⟩ X.tk ?_ ?_) fun D σ H ⟨env, s, A, B0, w, h⟩ => ?_, ?_⟩
  · intro W pn xe tk _
    exact ⟨fun pins s σ H D I ⟨Z, zc, WD, wd, h⟩ => (hbody pn xe W tk Z zc WD wd).pss.run pins s σ H D I h⟩
  · exact fun a oe cls d pn _ _ => (hsu a ((a, oe) :: pn)).pss
  · refine ⟨fun B1 H1 A1 s1 => B1 = B0 ∧ Ext B0 H A s H1 A1 s1 ∧ X.Z B0 H1 A1 s1, fun {B H1 H2 A1 A2 s1 s2} z e => ⟨z.1, z.2.1.trans (by rw [← z.1]; exact e), X.zc z.2.2 (by rw [← z.1]; exact e)⟩, _, ?_, env, s, A, B0, ⟨w.rs, w.re, rfl, .refl, w.z⟩, h⟩
    rintro x fs env' s' cls dx σ' B1 H' A' ⟨rs, re, rfl, ex, z⟩ hm xr ⟨b, hb, hy, hn⟩
    obtain ⟨hk, hx⟩ := B.h x b cls hb hm
    refine ⟨b, hx, fun e a na => ?_, fun e => X.wd x fs env' s' cls dx σ' B1 H' A' ⟨rs, re, z⟩ hm xr (hn e)⟩
    exact ⟨env', s', A', B1, ⟨rs, re, trivial⟩, (hsu 0 []).mono _ _ _ _ (PostS.from ex) (hy e)⟩
  · intro a b env s l h
    refine hW _ _ _ _ _ (fun x fs e s' ⟨k, h1, h2, h3⟩ => ⟨k, h1, fun z => (hsu 0 []).mono _ _ _ _ l (h2 z), h3⟩) ((hbody [] (fun _ _ => True) (fun _ _ _ _ => True) (fun _ _ _ => trivial) (fun _ _ _ _ => True) (fun _ _ => trivial) _ (fun _ _ _ _ _ _ _ _ _ _ _ _ _ _ => trivial)).mono a b env s l h)
end
end Dl
set_option Elab.async false
set_option linter.all false
set_option autoImplicit false
set_option maxRecDepth 100000
set_option maxHeartbeats 4000000
namespace Dl
open PySem PySem.Spec PyProof.Rows L2
/-- an own class, by its name -/
structure ClsN (K : PySem.W.Frag) (c : Str) (C : Addr) : Prop where
  n : PySem.W.nsIn K mainGlobals c = some (some (.ref C))
  c : Cls K C
theorem ClsN.eq {K : PySem.W.Frag} {c : Str} {C C' : Addr} (h : ClsN K c C) (g : PySem.W.nsIn K mainGlobals c = some (some (.ref C'))) : C' = C := by
  have e := g.symm.trans h.n
  cases e; rfl
/-- .. of which no class has the attribute f -/
def HasF (K : PySem.W.Frag) (c f : Str) : Prop := ∃ C, ClsN K c C ∧ NoAttr K C f
def putD (f : Str) (y : D) : List (Str × D) → List (Str × D)
  | [] => [(f, y)]
  | (g, z) :: r => if g = f then (g, y) :: r else (g, z) :: putD f y r
theorem putD_names {K : PySem.W.Frag} {F : Hp} {A : List Addr} {f : Str} {y : D} {v : V} (hd : Dat K F A y v) : ∀ {fs : List (Str × D)} {fvs : List (Str × V)}, fvs.map (·.1) = fs.map (·.1) → DatL K F A (fs.map (·.2)) (fvs.map (·.2)) →
    (putF f v fvs).map (·.1) = (putD f y fs).map (·.1) ∧ DatL K F A ((putD f y fs).map (·.2)) ((putF f v fvs).map (·.2))
  | [], fvs, hn, hv => by
    have e : fvs = [] := List.map_eq_nil_iff.mp hn
    subst e
    exact ⟨rfl, .cons hd .nil⟩
  | (g, z) :: r, fvs, hn, hv => by
    cases fvs with
    | nil => cases hn
    | cons p q =>
      obtain ⟨g', u⟩ := p
      have e1 : g' = g := (List.cons.inj hn).1
      have e2 : q.map (·.1) = r.map (·.1) := (List.cons.inj hn).2
      subst e1
      cases hv with
      | cons h1 h2 =>
        unfold putF putD
        by_cases c : g' = f
        · rw [if_pos c, if_pos c]
          exact ⟨by rw [List.map_cons, List.map_cons, e2], .cons hd h2⟩
        · rw [if_neg c, if_neg c]
          obtain ⟨a, b⟩ := putD_names (f := f) hd e2 h2
          exact ⟨by rw [List.map_cons, List.map_cons, a], .cons h1 b⟩
theorem lookup_rel {K : PySem.W.Frag} {F : Hp} {A : List Addr} {f : Str} : ∀ {fs : List (Str × D)} {fvs : List (Str × V)}, fvs.map (·.1) = fs.map (·.1) → DatL K F A (fs.map (·.2)) (fvs.map (·.2)) →
    (∀ d, fs.lookup f = some d → ∃ v, fvs.lookup f = some v ∧ Dat K F A d v) ∧ (fs.lookup f = none → fvs.lookup f = none)
  | [], fvs, hn, hv => by
    have e : fvs = [] := List.map_eq_nil_iff.mp hn
    subst e
    exact ⟨(fun _ h => by cases h), fun _ => rfl⟩
  | (g, z) :: r, fvs, hn, hv => by
    cases fvs with
    | nil => cases hn
    | cons p q =>
      obtain ⟨g', u⟩ := p
      have e1 : g' = g := (List.cons.inj hn).1
      have e2 : q.map (·.1) = r.map (·.1) := (List.cons.inj hn).2
      subst e1
      cases hv with
      | cons h1 h2 =>
        rw [List.lookup_cons, List.lookup_cons]
        cases c : f == g' with
        | true => exact ⟨fun d e => by cases e; exact ⟨_, rfl, h1⟩, fun e => nomatch e⟩
        | false => exact lookup_rel e2 h2
theorem ins_at {K : PySem.W.Frag} {B : List Addr} {H : Hp} {A : List Addr} {s : Sto} {l : Nat} {a C : Addr} {c : Str} {fs : List (Str × D)} (R : RepS K B H A s) (hA : A[l]? = some a) (hl : s[l]? = some (some (.ins c fs))) (hC : ClsN K c C) :
    ∃ dx fvs, H a = some (.ins C dx fvs) ∧ fvs.map (·.1) = fs.map (·.1) ∧ DatL K (Fz B H A s) A (fs.map (·.2)) (fvs.map (·.2)) := by
  obtain ⟨a', ha', C', dx, fvs, hn, h1, h2, h3⟩ := R.ob l _ hl
  rw [hA] at ha'; cases ha'
  have e := hC.eq hn
  subst e
  exact ⟨dx, fvs, h1, h2, h3⟩
section
variable {X : DX} {pos pos' p apos : Pos} {e o value : Expr} {es : List Expr} {te to tv : ED} {t : AD} {c f m x : Str}
/-- e.f, an attribute of an instance of the class c -/
def dFld (c f : Str) (te : ED) : ED := fun env s Q => te env s fun x s1 => ∃ l fs v, x = .ref l ∧ s1[l]? = some (some (.ins c fs)) ∧ fs.lookup f = some v ∧ Q v s1
theorem mono_fld (m : Mono te) : Mono (dFld c f te) := fun _ _ _ _ g h => m _ _ _ _ (fun _ _ ⟨l, fs, v, e1, e2, e3, q⟩ => ⟨l, fs, v, e1, e2, e3, g _ _ q⟩) h
theorem pd_fld (hc : HasF X.K c f) (he : PD X e te) (hb : attributeBase e f X.env (eval e X.env) = eval e X.env := by rfl) : PD X (.Attribute e f pos) (dFld c f te) := by
  obtain ⟨C, hC, hn⟩ := hc
  refine ⟨pe_imp (pe_fld he.pe hb) fun σ H Q ⟨env, s, A, B, w, h⟩ => ?_, mono_fld he.mono⟩
  refine rdE_go he.mono w h fun x s1 v H1 A1 q1 w1 e1 dv => ?_
  obtain ⟨l, fs, z, rfl, hl, hz, q⟩ := q1
  cases dv with
  | ref hA =>
    obtain ⟨dx, fvs, h1, h2, h3⟩ := ins_at w1.rs hA hl hC
    obtain ⟨u, hu, du⟩ := (lookup_rel h2 h3).1 z hz
    exact ⟨_, C, dx, fvs, u, rfl, h1, hC.c, hn, hu, q _ _ _ w1.rs e1 du⟩
/-- o.f = value -/
def dSetF (c f : Str) (to tv : ED) : SD := fun E env s => tv env s fun y s1 => to env s1 fun x s2 => ∃ l fs, x = .ref l ∧ s2[l]? = some (some (.ins c fs)) ∧ fs.length < 1000 ∧ E.nx env (s2.set l (some (.ins c (putD f y fs))))
theorem mono_setF (mo : Mono to) (mv : Mono tv) : MonoS (dSetF c f to tv) := fun _ _ _ _ le h => mv _ _ _ _ (fun _ _ h => mo _ _ _ _ (fun _ _ ⟨l, fs, e1, e2, e3, q⟩ => ⟨l, fs, e1, e2, e3, le.nx _ _ q⟩) h) h
theorem write_ins {K : PySem.W.Frag} {B : List Addr} {H : Hp} {A : List Addr} {s : Sto} {l : Nat} {a C dx : Addr} {c f : Str} {y : D} {v : V} {fs : List (Str × D)} {fvs : List (Str × V)} (R : RepS K B H A s) (hA : A[l]? = some a) (hl : s[l]? = some (some (.ins c fs))) (hC : ClsN K c C) (hn : fvs.map (·.1) = fs.map (·.1)) (hv : DatL K (Fz B H A s) A (fs.map (·.2)) (fvs.map (·.2))) (dy : Dat K (Fz B H A s) A y v) :
    RepS K B (upd H a (.ins C dx (putF f v fvs))) A (s.set l (some (.ins c (putD f y fs)))) ∧ Ext B H A s (upd H a (.ins C dx (putF f v fvs))) A (s.set l (some (.ins c (putD f y fs)))) := by
  obtain ⟨n1, n2⟩ := putD_names (f := f) dy hn hv
  exact R.write (o := .ins C dx (putF f v fvs)) (mo' := .ins c (putD f y fs)) hl hA ⟨C, dx, _, hC.n, upd_same, n1, n2⟩
theorem psd_fld (hc : HasF X.K c f) (ho : PD X o to) (hv : PD X value tv) (hs : swapsWith value (some (.Attribute o f pos')) pos.line X.env = pure false := by rfl) : PSD X (.Assign [.Attribute o f pos'] value pos) (dSetF c f to tv) := by
  obtain ⟨C, hC, hn⟩ := hc
  refine ⟨ps_imp (ps_fld ho.pe hv.pe hs) fun D σ H ⟨env, s, A, B, w, h⟩ => ?_, mono_setF ho.mono hv.mono⟩
  refine rdE_go hv.mono w h fun y s1 v H1 A1 q1 w1 e1 dv => ?_
  refine rdE_go ho.mono w1 q1 fun x s2 u H2 A2 q2 w2 e2 du => ?_
  obtain ⟨l, fs, rfl, hl, hlen, q⟩ := q2
  cases du with
  | ref hA =>
    obtain ⟨dx, fvs, h1, h2, h3⟩ := ins_at w2.rs hA hl hC
    obtain ⟨r3, e3⟩ := write_ins (f := f) (dx := dx) w2.rs hA hl hC h2 h3 (dv.ext e2)
    have hlen' : fvs.length < 1000 := by
      have := congrArg List.length h2
      rw [List.length_map, List.length_map] at this
      omega
    exact ⟨_, C, dx, fvs, rfl, h1, hC.c, hn, hlen', q _ _ _ r3 ((e1.trans e2).trans e3) (w2.to r3 e3).re⟩
/-- a method of the class c that keeps its promise -/
def KnM (P : Program) (w : World) (K : PySem.W.Frag) (mg : Str → Option Value) (base : Heap) (CX : CXT) (c m : Str) (k : Nat) (ps : List Str) (sp : SpD) : Prop :=
  ∃ (C f : Addr) (fd : FuncData), ClsN K c C ∧ Meth K C m f ∧ FnD P w K mg base CX k f fd ps sp ∧ Binds K fd ps []
def tMethG (K : PySem.W.Frag) (mg : Str → Option Value) (C : Addr) (m : Str) (sp : SpD) (dvs : List V) (E : L2.St → XK) (ta : TE) (t : TA) : TE := fun σ H Q => ta σ H fun x H1 => ∃ a dx fs, x = .ref a ∧ H1 a = some (.ins C dx fs) ∧ fs.lookup m = none ∧
  t σ H1 fun vs H2 => liftSp K mg sp (x :: (vs ++ dvs)) H2 Q (E σ)
theorem pe_methG {X : Cx} {CX : CXT} {E : L2.St → XK} {C f : Addr} {fd : FuncData} {ps : List Str} {sp : SpD} {k : Nat} {dvs : List V} {ds : List Value} {ta : TE} {t : TA} {pl : Sem Bool} (he : PE X o ta) (c : Cls X.K C) (hm : Meth X.K C m f) (F : FnD X.prog X.w X.K X.mg X.base CX k f fd ps sp) (hr : RoomG k X.A) (hb : Binds X.K fd ps ds) (hd : Vals dvs ds) (hx : ∀ σ, PassesAt CX X σ (E σ)) (ha : PA X (e :: es) t)
    (hst : starEach (e :: es) X.env = (false, eval e X.env) :: starEach es X.env) (hpl : (backTo pos (starEach es X.env)).any (·.1) = false)
    (ht : eval (.Call (.Attribute o m apos) (e :: es) [] pos) X.env = (do
      let ov ← eval o X.env
      standAt apos.atName
      let (f, first) ← holding [ov] (getMethod ov m pl)
      callWith pos f first (backTo pos (starEach (e :: es) X.env)) (backToKw pos (keywordEach [] X.env)))) :
    PE X (.Call (.Attribute o m apos) (e :: es) [] pos) (tMethG X.K X.mg C m sp dvs E ta t) := by
  refine ⟨fun pins s σ H Q I h => ?_⟩
  refine PySem.W.methodCall_KW (pl := pl) (thn (he.run pins s σ H _ I h) fun u s1 ⟨x, H1, I1, rx, a, dx, fs, ex, ea, l, q⟩ => ?_) ht
  subst ex
  obtain rfl : u = Value.ref a := rx
  refine getmeth_ok I1 ea c hm l ?_
  refine PySem.W.callWith_K (first := [.ref a]) (h₀ := X.base) I.ok.mod.kin hm.kp (thn (ha.run pos pins s1 σ H1 _ I1 q) fun us s2 z => ?_) hst hpl
  obtain ⟨vs, H2, J, r, q2⟩ := z
  have r2 : Vals (.ref a :: (vs ++ dvs)) (.ref a :: (us ++ ds)) := .cons rfl (r.append hd)
  exact ⟨J.kIn, F.go hr (hx σ) J (hb s2 (.ref a :: us) J.kIn (r2.length.symm.trans (liftSp.len F.len q2))) r2 q2⟩
theorem pe_methG0 {X : Cx} {CX : CXT} {E : L2.St → XK} {C f : Addr} {fd : FuncData} {ps : List Str} {sp : SpD} {k : Nat} {dvs : List V} {ds : List Value} {ta : TE} {pl : Sem Bool} (he : PE X o ta) (c : Cls X.K C) (hm : Meth X.K C m f) (F : FnD X.prog X.w X.K X.mg X.base CX k f fd ps sp) (hr : RoomG k X.A) (hb : Binds X.K fd ps ds) (hd : Vals dvs ds) (hx : ∀ σ, PassesAt CX X σ (E σ))
    (ht : eval (.Call (.Attribute o m apos) [] [] pos) X.env = (do
      let ov ← eval o X.env
      standAt apos.atName
      let (f, first) ← holding [ov] (getMethod ov m pl)
      callWith pos f first (backTo pos (starEach [] X.env)) (backToKw pos (keywordEach [] X.env)))) :
    PE X (.Call (.Attribute o m apos) [] [] pos) (tMethG X.K X.mg C m sp dvs E ta tNil) := by
  refine ⟨fun pins s σ H Q I h => ?_⟩
  refine PySem.W.methodCall_KW (pl := pl) (thn (he.run pins s σ H _ I h) fun u s1 ⟨x, H1, I1, rx, a, dx, fs, ex, ea, l, q⟩ => ?_) ht
  subst ex
  obtain rfl : u = Value.ref a := rx
  refine getmeth_ok I1 ea c hm l ?_
  have r2 : Vals (.ref a :: ([] ++ dvs)) (.ref a :: ([] ++ ds)) := .cons rfl hd
  exact PySem.W.callWith_K0 (first := [.ref a]) I1.kIn hm.kp (F.go hr (hx σ) I1 (hb s1 [.ref a] I1.kIn (r2.length.symm.trans (liftSp.len F.len q))) r2 q)
/-- o.m(..), dds: the defaults -/
def dMeth (W : WXD) (c m : Str) (sp : SpD) (dds : List D) (to : ED) (t : AD) : ED := fun env s Q => to env s fun x s1 => ∃ l fs, x = .ref l ∧ s1[l]? = some (some (.ins c fs)) ∧ fs.lookup m = none ∧ t env s1 fun xs s2 => sp (.ref l :: (xs ++ dds)) s2 Q fun y fs s' => W y fs env s'
theorem mono_meth {W : WXD} {sp : SpD} {dds : List D} (ms : MonoSp sp) (mo : Mono to) (mt : Mono t) : Mono (dMeth W c m sp dds to t) := fun _ _ _ _ g h => mo _ _ _ _ (fun _ _ ⟨l, fs, e1, e2, e3, q⟩ => ⟨l, fs, e1, e2, e3, mt _ _ _ _ (fun _ _ q => ms _ _ _ _ _ _ g (fun _ _ _ h => h) q) q⟩) h
theorem wm_meth {sp : SpD} {dds : List D} (ms : MonoSp sp) (mo : Mono to) (mt : Mono t) : WM (fun W => dMeth W c m sp dds to t) := fun W W' env s Q f h => mo _ _ _ _ (fun _ _ ⟨l, fs, e1, e2, e3, q⟩ => ⟨l, fs, e1, e2, e3, mt _ _ _ _ (fun _ _ q => ms _ _ _ _ _ _ (fun _ _ h => h) (fun y fs s' h => f y fs env s' h) q) q⟩) h
section
variable {k : Nat} {ps : List Str} {sp : SpD} {ds : List Value} {dvs : List V} {dds : List D}
theorem nil_rd {X : DX} (σ : L2.St) (H : Hp) (Q : List V → Hp → Prop) (h : rdA X.kk dNil σ H Q) : tNil σ H Q := by
  obtain ⟨env, s, A, B, w, h⟩ := h
  exact h _ _ _ w.rs .refl .nil
theorem meth_rd {X : DX} {C : Addr} {E : L2.St → XK} {tA : TA} (hA' : ∀ σ H Q, rdA X.kk t σ H Q → tA σ H Q) (W : WXD) (hC : ClsN X.K c C) (ms : MonoSp sp) (mo : Mono to) (mt : Mono t) (hdd : ∀ (F : Hp) (A : List Addr), DatL X.K F A dds dvs)
    (pass : ∀ (env : En) (σ : L2.St) (s1 : Sto) (B : List Addr) (H1 : Hp) (A1 : List Addr) (H : Hp) (A : List Addr) (s : Sto) y fs s', Wo X.kk B H1 A1 s1 env σ → W y fs env s' → PostX X.K X.mg B H1 A1 s1 (E σ) y fs s')
    (σ : L2.St) (H : Hp) (Q : VK) (h : rdE X.kk (dMeth W c m sp dds to t) σ H Q) : tMethG X.K X.mg C m sp dvs E (rdE X.kk to) tA σ H Q := by
  obtain ⟨env, s, A, B, w, h⟩ := h
  refine rdE_go mo w h fun x s1 v H1 A1 q1 w1 e1 dv => ?_
  obtain ⟨l, fs, rfl, hl, hm, q⟩ := q1
  cases dv with
  | ref hA =>
    obtain ⟨dx, fvs, h1, h2, h3⟩ := ins_at w1.rs hA hl hC
    refine ⟨_, dx, fvs, rfl, h1, (lookup_rel h2 h3).2 hm, hA' _ _ _ (rdA_go mt w1 q fun xs s2 vs H2 A2 q2 w2 e2 dvs => ?_)⟩
    exact ⟨.ref l :: (xs ++ dds), s2, A2, B, w2.rs, .cons (.ref (e2.pre _ _ hA)) (dvs.append (hdd _ _)), ms _ _ _ _ _ _ (fun d s' q => PostE.from (e1.trans e2) q) (fun y fs s' h => pass env σ s2 B H2 A2 H A s y fs s' w2 h) q2⟩
theorem pd_meth {X : DX} (c' : KnM X.prog X.w X.K X.mg X.base (L2.CX X.prog X.w) c m k ps sp) (hr : RoomG k X.A) (ho : PD X o to) (ha : PAD X (e :: es) t) (pl : Sem Bool)
    (ht : eval (.Call (.Attribute o m apos) (e :: es) [] pos) X.env = (do
      let ov ← eval o X.env
      standAt apos.atName
      let (f, first) ← holding [ov] (getMethod ov m pl)
      callWith pos f first (backTo pos (starEach (e :: es) X.env)) (backToKw pos (keywordEach [] X.env))) := by rfl)
    (hst : starEach (e :: es) X.env = (false, eval e X.env) :: starEach es X.env := by rfl) (hpl : (backTo pos (starEach es X.env)).any (·.1) = false := by rfl) :
    PD X (.Call (.Attribute o m apos) (e :: es) [] pos) (dMeth X.WD c m sp [] to t) := by
  obtain ⟨C, f, fd, hC, hm, F, hb⟩ := c'
  exact ⟨pe_imp (pe_methG (E := WE X.W) (pl := pl) ho.pe hC.c hm F hr hb .nil (fun σ => passAt X.tk σ) ha.pa hst hpl ht)
    (meth_rd (fun _ _ _ h => h) X.WD hC F.mono ho.mono ha.mono (fun _ _ => .nil) fun env σ s1 B H1 A1 H A s y fs s' w1 h cls dx H' A' hm r x xr => X.wd y fs env s' cls dx σ B H' A' (w1.to r x) hm xr h), mono_meth F.mono ho.mono ha.mono⟩
theorem pd_methN {X : DX} (c' : KnM X.prog X.w X.K X.mg X.base CX0 c m k ps sp) (hr : RoomG k X.A) (ho : PD X o to) (ha : PAD X (e :: es) t) (pl : Sem Bool)
    (ht : eval (.Call (.Attribute o m apos) (e :: es) [] pos) X.env = (do
      let ov ← eval o X.env
      standAt apos.atName
      let (f, first) ← holding [ov] (getMethod ov m pl)
      callWith pos f first (backTo pos (starEach (e :: es) X.env)) (backToKw pos (keywordEach [] X.env))) := by rfl)
    (hst : starEach (e :: es) X.env = (false, eval e X.env) :: starEach es X.env := by rfl) (hpl : (backTo pos (starEach es X.env)).any (·.1) = false := by rfl) :
    PD X (.Call (.Attribute o m apos) (e :: es) [] pos) (dMeth noW c m sp [] to t) := by
  obtain ⟨C, f, fd, hC, hm, F, hb⟩ := c'
  exact ⟨pe_imp (pe_methG (E := fun _ _ _ _ => False) (pl := pl) ho.pe hC.c hm F hr hb .nil (fun σ pins H s e s' I c => L2.pass0 pins σ H s e s' I c) ha.pa hst hpl ht)
    (meth_rd (fun _ _ _ h => h) noW hC F.mono ho.mono ha.mono (fun _ _ => .nil) fun env σ s1 B H1 A1 H A s y fs s' w1 h => h.elim), mono_meth F.mono ho.mono ha.mono⟩
theorem pd_methN0 {X : DX} (c' : KnM X.prog X.w X.K X.mg X.base CX0 c m k ps sp) (hr : RoomG k X.A) (ho : PD X o to) (pl : Sem Bool)
    (ht : eval (.Call (.Attribute o m apos) [] [] pos) X.env = (do
      let ov ← eval o X.env
      standAt apos.atName
      let (f, first) ← holding [ov] (getMethod ov m pl)
      callWith pos f first (backTo pos (starEach [] X.env)) (backToKw pos (keywordEach [] X.env))) := by rfl) :
    PD X (.Call (.Attribute o m apos) [] [] pos) (dMeth noW c m sp [] to dNil) := by
  obtain ⟨C, f, fd, hC, hm, F, hb⟩ := c'
  refine ⟨pe_imp (pe_methG0 (E := fun _ _ _ _ => False) (pl := pl) ho.pe hC.c hm F hr hb .nil (fun σ pins H s e s' I c => L2.pass0 pins σ H s e s' I c) ht) fun σ H Q h => ?_, mono_meth F.mono ho.mono mono_nil⟩
  exact meth_rd nil_rd noW hC F.mono ho.mono mono_nil (fun _ _ => .nil) (fun env σ s1 B H1 A1 H A s y fs s' w1 h => h.elim) σ H Q h
end
end
end Dl
set_option Elab.async false
set_option linter.all false
set_option autoImplicit false
set_option maxRecDepth 100000
set_option maxHeartbeats 4000000
namespace Dl
open PySem PySem.Spec PyProof.Rows L2
/-- what isinstance says of the class: of plain things false; of an exception by its class's name -/
structure IsoX (K : PySem.W.Frag) (cv : Value) (tab : Str → Option Bool) : Prop where
  b : ∀ t ∈ ["NoneType", "bool", "int", "str", "tuple", "list", "dict"], PySem.W.kitOne K (.type t) cv = some false
  x : ∀ y r, tab y = some r → ∃ D : Addr, PySem.W.nsIn K mainGlobals y = some (some (.ref D)) ∧ ExcC K D ∧ PySem.W.kitOne K (.ref D) cv = some r
end Dl
set_option Elab.async false
set_option linter.all false
set_option autoImplicit false
set_option maxRecDepth 100000
set_option maxHeartbeats 4000000
namespace Dl
open PySem PySem.Spec PyProof.Rows L2
end Dl
set_option Elab.async false
set_option linter.all false
set_option autoImplicit false
set_option maxRecDepth 100000
set_option maxHeartbeats 4000000
namespace Dl
open PySem PySem.Spec PyProof.Rows L2
/-- the classes of a tuple with their tables -/
inductive IsoL (K : PySem.W.Frag) : List V → List Value → List (Str → Option Bool) → Prop
  | nil : IsoL K [] [] []
  | cons {c : V} {cv : Value} {t : Str → Option Bool} {cs : List V} {ws : List Value} {ts : List (Str → Option Bool)} : ClsV c cv → IsoX K cv t → IsoL K cs ws ts → IsoL K (c :: cs) (cv :: ws) (t :: ts)
theorem IsoL.len {K : PySem.W.Frag} {cs : List V} {ws : List Value} {ts : List (Str → Option Bool)} (h : IsoL K cs ws ts) : cs.length = ts.length := by
  induction h with
  | nil => rfl
  | cons _ _ _ ih => rw [List.length_cons, List.length_cons, ih]
theorem IsoL.any {K : PySem.W.Frag} {cs : List V} {ws : List Value} {ts : List (Str → Option Bool)} (h : IsoL K cs ws ts) {y : Str} {D : Addr} (hn : PySem.W.nsIn K mainGlobals y = some (some (.ref D))) (hs : ∀ t ∈ ts, (t y).isSome = true) : PySem.W.kitAny K (.ref D) ws = some (ts.any fun t => (t y).getD false) := by
  induction h with
  | nil => exact kitAny_nil
  | @cons c cv t cs ws ts h1 h2 h3 ih =>
    obtain ⟨b, hb⟩ := Option.isSome_iff_exists.mp (hs t List.mem_cons_self)
    obtain ⟨D', hn', _, hk⟩ := h2.x y b hb
    rw [hn] at hn'; cases hn'
    refine kitAny_cons hk (fun e => ?_) fun e => ?_
    · rw [List.any_cons, hb, e]
      exact (ih fun t' ht => hs t' (List.mem_cons_of_mem _ ht)).trans (by simp)
    · rw [List.any_cons, hb, e]; rfl
end Dl
set_option Elab.async false
set_option linter.all false
set_option autoImplicit false
set_option maxRecDepth 100000
set_option maxHeartbeats 4000000
namespace Dl
open PySem PySem.Spec PyProof.Rows L2
/-- a method where it stands -/
def AtM (K : PySem.W.Frag) (c m qual : Str) (st : Stmt) (ps : List Str) : Prop := ∃ (C f : Addr) (fd : FuncData), ClsN K c C ∧ Meth K C m f ∧ Fun K m qual st f fd ∧ Binds K fd ps []
theorem KnM.mk {P : Program} {w : World} {K : PySem.W.Frag} {mg : Str → Option Value} {base : Heap} {c m qual : Str} {st : Stmt} {N ps : List Str} {k : Nat} {sp : SpD} {tb : SD} (a : AtM K c m qual st ps) (S : FnScope N ps (defScope st)) (mono : MonoSp sp)
    (len : ∀ ds s Q E, sp ds s Q E → ds.length = ps.length)
    (body : ∀ (f : Addr) (cdv : Value) (A : Around) (outer : List PySem.Env) (s : Shared) (H : Hp) (E : XK), RoomG k (A.deeper (envOfC qual (defScope st) s.heap.objs.size f cdv)) → PSsD (dx0 (cxOf CX0 P w K mg base N qual (defScope st) f cdv A outer s H E).nox) (defBody st) tb)
    (h : ∀ ds s Q E, sp ds s Q E → tb (endsOf Q) (envD N ds) s) : KnM P w K mg base CX0 c m (k + 1) ps sp := by
  obtain ⟨C, f, fd, hC, hm, F, hb⟩ := a
  exact ⟨C, f, fd, hC, hm, fnD F S mono len (body f) h, hb⟩
theorem KnM.mkX {P : Program} {w : World} {K : PySem.W.Frag} {mg : Str → Option Value} {base : Heap} {c m qual : Str} {st : Stmt} {N ps : List Str} {k : Nat} {sp : SpD} {tb : WXD → SD} (a : AtM K c m qual st ps) (S : FnScope N ps (defScope st)) (mono : MonoSp sp)
    (len : ∀ ds s Q E, sp ds s Q E → ds.length = ps.length)
    (body : ∀ (f : Addr) (cdv : Value) (A : Around) (outer : List PySem.Env) (s : Shared) (H : Hp) (E : XK) (B0 A0 : List Addr) (s0 : Sto), RoomG k (A.deeper (envOfC qual (defScope st) s.heap.objs.size f cdv)) →
      PSsD (dxR P w K mg base N qual (defScope st) f cdv A outer s H E rfl B0 A0 s0) (defBody st) (tb fun y fs _ s' => PostX K mg B0 H A0 s0 E y fs s'))
    (h : ∀ ds s Q E, sp ds s Q E → tb (fun y fs _ s' => E y fs s') (endsOf Q) (envD N ds) s) : KnM P w K mg base (L2.CX P w) c m (k + 1) ps sp := by
  obtain ⟨C, f, fd, hC, hm, F, hb⟩ := a
  exact ⟨C, f, fd, hC, hm, fnDX F S mono len (body f) h, hb⟩
/-- a class with its __init__ -/
def AtI (K : PySem.W.Frag) (mg : Str → Option Value) (c qual : Str) (st : Stmt) (ps : List Str) : Prop := ∃ (C f : Addr) (fd : FuncData), ClsN K c C ∧ mg c = some (.ref C) ∧ Mk K C f ∧ Fun K "__init__" qual st f fd ∧ Binds K fd ps []
def KnI (P : Program) (w : World) (K : PySem.W.Frag) (mg : Str → Option Value) (base : Heap) (c : Str) (k : Nat) (ps : List Str) (sp : SpD) : Prop := ∃ (C f : Addr) (fd : FuncData), ClsN K c C ∧ mg c = some (.ref C) ∧ Mk K C f ∧ FnD P w K mg base CX0 k f fd ps sp ∧ Binds K fd ps []
theorem KnI.mk {P : Program} {w : World} {K : PySem.W.Frag} {mg : Str → Option Value} {base : Heap} {c qual : Str} {st : Stmt} {N ps : List Str} {k : Nat} {sp : SpD} {tb : SD} (a : AtI K mg c qual st ps) (S : FnScope N ps (defScope st)) (mono : MonoSp sp)
    (len : ∀ ds s Q E, sp ds s Q E → ds.length = ps.length)
    (body : ∀ (f : Addr) (cdv : Value) (A : Around) (outer : List PySem.Env) (s : Shared) (H : Hp) (E : XK), RoomG k (A.deeper (envOfC qual (defScope st) s.heap.objs.size f cdv)) → PSsD (dx0 (cxOf CX0 P w K mg base N qual (defScope st) f cdv A outer s H E).nox) (defBody st) tb)
    (h : ∀ ds s Q E, sp ds s Q E → tb (endsOf Q) (envD N ds) s) : KnI P w K mg base c (k + 1) ps sp := by
  obtain ⟨C, f, fd, hC, hg, hm, F, hb⟩ := a
  exact ⟨C, f, fd, hC, hg, hm, fnD F S mono len (body f) h, hb⟩
theorem RoomG.make {k : Nat} {A : Around} (r : RoomG (k + 1) A) (C : Addr) (us : List Value) (kw : List (Str × Value)) : RoomG k (A.under (.builtin "type.__call__" ⟨.ref C :: us, kw⟩)) := ⟨r.r.make C us kw, r.g⟩
/-- c(): the new instance is handed to __init__ -/
def dMake (c : Str) (sp : SpD) : ED := fun _ s Q => sp [.ref s.length] (s ++ [some (.ins c [])]) (fun d s' => d = .non ∧ Q (.ref s.length) s') fun _ _ _ => False
theorem mono_make {c : Str} {sp : SpD} (ms : MonoSp sp) : Mono (dMake c sp) := fun _ _ _ _ g h => ms _ _ _ _ _ _ (fun _ _ ⟨e, q⟩ => ⟨e, g _ _ q⟩) (fun _ _ _ h => h) h
section
variable {k : Nat} {ps : List Str} {sp : SpD} {x : Str} {p pos : Pos}
theorem pe_makeD {X : Cx} {C f : Addr} {fd : FuncData} (M : Mk X.K C f) (F : FnD X.prog X.w X.K X.mg X.base CX0 k f fd ps sp) (hr : RoomG (k + 1) X.A) (hg : Gl X x) (hm : X.mg x = some (.ref C)) (hb : Binds X.K fd ps []) (hdb : (x == ("__debug__" : Str)) = false := by decide) :
    PE X (.Call (.Name x p) [] [] pos) (fun _ H Q => ∀ y dx, H y = none → H dx = none → dx ≠ y → liftSp X.K X.mg sp [.ref y] (upd (upd H dx (.own y)) y (.ins C dx [])) (fun v H2 => v = .non ∧ Q (.ref y) H2) fun _ _ _ => False) := by
  refine ⟨fun pins s σ H Q I h => ?_⟩
  refine wpAny_Call_Name_kw (ld_glob I hg hm ?_ hdb)
  refine PySem.W.callWith_K0 I.kIn M.kp ?_
  have hq := h (s.heap.objs.size + 1) s.heap.objs.size (I.hok.fresh (Nat.le_succ _)) (I.hok.fresh (Nat.le_refl _)) (Nat.ne_of_lt (Nat.lt_succ_self _))
  have I2 := Inv.made (C := C) I
  have r2 : Vals [V.ref (s.heap.objs.size + 1)] ([Value.ref (s.heap.objs.size + 1)] ++ []) := .cons rfl .nil
  have hl : ([Value.ref (s.heap.objs.size + 1)] ++ ([] : List Value)).length = ps.length := by
    have e := liftSp.len F.len hq
    exact e
  refine wpAny_call (make_map (f := f) I.kIn M.makes M.init (beq_iff_eq.mp M.fn) (codeAny_mono (F.run _ X.stack _ _ ⟨[Value.ref (s.heap.objs.size + 1)], []⟩ ([Value.ref (s.heap.objs.size + 1)] ++ []) _ _ (fun _ _ _ => False) (hr.make C [] [])
    (I2.env0.make C [] []) (hb _ [Value.ref (s.heap.objs.size + 1)] I2.kIn hl) r2 hq) fun r s' hq' => ?_))
  match r, hq' with
  | .error e, hq' => exact L2.pass0 pins σ H _ e s' I (by exact hq')
  | .ok (.ret u), hq' =>
    obtain ⟨v, H', I3, rv, ev, q3⟩ := I2.after hq'
    subst ev
    exact ⟨rv, ⟨V.ref (s.heap.objs.size + 1), H', I3, rfl, q3⟩⟩
theorem pd_make0 {X : DX} (c' : KnI X.prog X.w X.K X.mg X.base x k ps sp) (hr : RoomG (k + 1) X.A) (hg : Gl X x) (hdb : (x == ("__debug__" : Str)) = false := by decide) : PD X (.Call (.Name x p) [] [] pos) (dMake x sp) := by
  obtain ⟨C, f, fd, hC, hm, M, F, hb⟩ := c'
  refine ⟨pe_imp (pe_makeD M F hr hg hm hb hdb) fun σ H Q ⟨env, s, A, B, w, h⟩ y dx hy hdx hne => ?_, mono_make F.mono⟩
  obtain ⟨r1, e1, f1⟩ := w.rs.laid (o := .own y) hdx
  have hy1 : upd H dx (.own y) y = none := by rw [upd_ne (Ne.symm hne)]; exact hy
  obtain ⟨r2, e2⟩ := r1.born (o := .ins C dx []) (mo := .ins x []) hy1 ⟨C, dx, [], hC.n, upd_same, rfl, .nil⟩
  have hA : (A ++ [y])[s.length]? = some y := by rw [← w.rs.len]; simp
  have h : sp [.ref s.length] (s ++ [some (.ins x [])]) (fun d s' => d = .non ∧ PostE X.K B H A s Q (.ref s.length) s') (fun _ _ _ => False) := h
  exact ⟨[.ref s.length], s ++ [some (.ins x [])], A ++ [y], B, r2, .cons (.ref hA) .nil, F.mono _ _ _ _ _ _ (fun d s' ⟨hd, q⟩ v H' A' r e dv => by
    subst hd
    cases dv
    exact ⟨rfl, q _ _ _ r ((e1.trans e2).trans e) (.ref (e.pre _ _ hA))⟩) (fun _ _ _ h => False.elim h) h⟩
end
end Dl
set_option Elab.async false
set_option linter.all false
set_option autoImplicit false
set_option maxRecDepth 100000
set_option maxHeartbeats 4000000
namespace Dl
open PySem PySem.Spec PyProof.Rows L2
end Dl
set_option Elab.async false
set_option linter.all false
set_option autoImplicit false
set_option maxRecDepth 100000
set_option maxHeartbeats 4000000
namespace Dl
open PySem PySem.Spec PyProof.Rows L2
open AutoSeq1 (wpAny_loadPart')
section
variable {prog : Program} {w : World} {A : Around} {E : Value → Shared → Prop} {s : Shared}
theorem nextOf_tup_item {it l : Addr} {i : Nat} {items} {x : Value} {Q : Value → Shared → Prop} (hit : IsTupIter s.heap it l i)
    (hl : IsTup s.heap l items) (hx : items[i]? = some x)
    (hQ : ∀ h', IsTupIter h' it l (i + 1) → Heap.SameBut it s.heap h' → Q x { s with heap := h' }) :
    wpAny (model prog w) A (Builtin.SmallTypes.nextOf (.ref it)) Q E s := by
  obtain ⟨o, ho, hc, hd⟩ := id hit
  obtain ⟨ol, hol, _, nl, hdl⟩ := hl
  unfold Builtin.SmallTypes.nextOf
  refine wpAny_bind (wpAny_callSpecial?_slot (name := Str.ofString "__next__") hit.typeIs slot_tupleiter_next
    (wpAny_call_entry slot_tupleiter_next hit.typeIs entry_tupleiter_next ?_ (args_tupleiter_next _)))
  show wpAny _ _ (field (.ref it) 0 >>= _) _ _ s
  refine wpAny_bind (wpAny_field ho hd (x := .ref l) rfl ?_)
  show wpAny _ _ (if (Value.ref l == Value.none) = true then _ else _) _ _ s
  rw [if_neg (show ¬ ((Value.ref l == Value.none) = true) from Bool.false_ne_true)]
  show wpAny _ _ (field (.ref it) 1 >>= _) _ _ s
  refine wpAny_bind (wpAny_field ho hd (x := .int i 0) rfl ?_)
  show wpAny _ _ (seqItems? (.ref l) >>= _) _ _ s
  refine wpAny_bind (wpAny_seqItems hol hdl ?_)
  simp only [Int.toNat_natCast, hx]
  refine wpAny_bind (wpAny_setField ho hd (by simp) (wpAny_pure ⟨x, rfl, wpAny_pure (hQ _ ?_ (Heap.SameBut.update ..))⟩))
  exact ⟨_, Heap.get?_update_self _ ho (Obj.isFreed_of_fields (Obj.data_mapFields hd _)), (Obj.cls_mapFields ..).trans hc, by
    rw [Obj.data_mapFields hd]; simp [rawInt]⟩
theorem nextOf_tup_end {it l : Addr} {i : Nat} {items} {Q : Value → Shared → Prop} (hh : A.handled = none)
    (hit : IsTupIter s.heap it l i) (hl : IsTup s.heap l items) (hx : items[i]? = none)
    (hE : ∀ h' e, Heap.ExtBut it s.heap h' → (∃ o, h'.get? e = some o ∧ o.cls = .type "StopIteration") → E (.ref e) { s with heap := h' }) :
    wpAny (model prog w) A (Builtin.SmallTypes.nextOf (.ref it)) Q E s := by
  obtain ⟨o, ho, hc, hd⟩ := id hit
  obtain ⟨ol, hol, _, nl, hdl⟩ := hl
  unfold Builtin.SmallTypes.nextOf
  refine wpAny_bind (wpAny_callSpecial?_slot (name := Str.ofString "__next__") hit.typeIs slot_tupleiter_next
    (wpAny_call_entry slot_tupleiter_next hit.typeIs entry_tupleiter_next ?_ (args_tupleiter_next _)))
  show wpAny _ _ (field (.ref it) 0 >>= _) _ _ s
  refine wpAny_bind (wpAny_field ho hd (x := .ref l) rfl ?_)
  show wpAny _ _ (if (Value.ref l == Value.none) = true then _ else _) _ _ s
  rw [if_neg (show ¬ ((Value.ref l == Value.none) = true) from Bool.false_ne_true)]
  show wpAny _ _ (field (.ref it) 1 >>= _) _ _ s
  refine wpAny_bind (wpAny_field ho hd (x := .int i 0) rfl ?_)
  show wpAny _ _ (seqItems? (.ref l) >>= _) _ _ s
  refine wpAny_bind (wpAny_seqItems hol hdl ?_)
  simp only [Int.toNat_natCast, hx]
  refine wpAny_bind (wpAny_rule (wpAny_bind (wpAny_setField ho hd (by simp) ?_)))
  show wpAny _ _ (newExc (.type "StopIteration") [] >>= _) _ _ _
  refine wpAny_bind ?_
  simp only [newExc, newTuple]
  refine wpAny_bind (wpAny_newObj_type ?_ (by size_fits))
  refine wpAny_bind (m := firstArgMember _ _) (wpAny_of_eq (a := Value.none) (by first | rfl | (simp only [firstArgMember]; rfl)) ?_)
  refine wpAny_newObj_type ?_ (by size_fits)
  simp only [raiseNew]
  refine wpAny_bind (wpAny_handled ?_)
  first | rw [show A.in1.handled = none from hh] | rw [hh]
  refine wpAny_bind (wpAny_pure (wpAny_throw ?_))
  exact hE _ _ (((Heap.SameBut.update ..).extBut.push _).push _) ⟨_, Heap.get?_push_size _ rfl, rfl⟩
end
theorem draws_tup {prog : Program} {w : World} {A : Around} (hh : A.handled = none) (it l : Addr) (hne : l ≠ it) (items : Array Value) :
    Draws prog w A it [it, l] items.size (fun i v => items[i]? = some v) (fun i h => IsTupIter h it l i ∧ IsTup h l items) where
  live := fun _ _ st => let ⟨o, ho, _⟩ := st.1; ⟨o, ho⟩
  frame := fun _ _ _ st hk => ⟨let ⟨o, ho, r⟩ := st.1; ⟨o, hk it (by simp) o ho, r⟩, let ⟨o, ho, r⟩ := st.2; ⟨o, hk l (by simp) o ho, r⟩⟩
  item := fun i s Q E hi st hQ => by
    refine nextOf_tup_item st.1 st.2 (x := items[i]) (by simp [hi]) fun h' hit' hs' => ?_
    exact hQ _ h' s.toks (by simp [hi]) ⟨hit', st.2.extBut hs'.extBut hne⟩ hs'
  done := fun s Q E st hE => nextOf_tup_end hh st.1 st.2 (by simp) hE
theorem meets_enumerate_newT (l : Addr) (items : Array Value) (n : Nat) (dct : Option Addr) (sl : Array (Option Value)) :
    Meets (Builtin.«enumerate.__new__» ⟨[.type "enumerate", .ref l], []⟩) (fun _ R s => s.heap.get? l = some { cls := .type "tuple", dict := dct, data := .seq items n, slots := sl } ∧
      R (.ok (.ret (.ref (s.heap.push { cls := .type "tuple_iterator", data := .fields #[.ref l, .int 0 0] }).objs.size)))
        { s with heap := (s.heap.push { cls := .type "tuple_iterator", data := .fields #[.ref l, .int 0 0] }).push { cls := .type "enumerate", data := .fields #[.none, .bool false, .ref s.heap.objs.size, rawInt 0, .none, .none] } }) :=
  .of_wp fun prog w A R s h => by
    obtain ⟨hp, g, d, tk, os⟩ := s; obtain ⟨hl, h⟩ := h
    have hsub := sub_enumerate
    have hL : IsTup (Shared.heap ⟨hp, g, d, tk, os⟩) l items := ⟨_, hl, rfl, n, rfl⟩
    wp_walk using wpAny_loadPart' hl
    refine wpAny_stack_any fun st => wpAny_pure ?_
    split
    · rename_i c _ _ _ _ _
      cases (c == Value.type "enumerate")
      · wp_walk using wpAny_loadPart' hl, iter_tuple hL
        exact ⟨_, rfl, h⟩
      · wp_walk using wpAny_loadPart' hl, iter_tuple hL
        exact ⟨_, rfl, h⟩
    · wp_walk using wpAny_loadPart' hl, iter_tuple hL
      exact ⟨_, rfl, h⟩
theorem call_enumerate_tup {prog : Program} {w : World} {A : Around} {E : Value → Shared → Prop} {s : Shared} {l : Addr} {items : Array Value} {Q : Value → Shared → Prop} (hL : IsTup s.heap l items)
    (h : ∀ h', IsEnum h' (s.heap.objs.size + 1) s.heap.objs.size 0 .none → IsTupIter h' s.heap.objs.size l 0 → h'.objs.size = s.heap.objs.size + 2 →
      (∀ b o, s.heap.get? b = some o → h'.get? b = some o) → Q (.ref (s.heap.objs.size + 1)) { s with heap := h' }) :
    wpAny (model prog w) A (call (.type "enumerate") [.ref l]) Q E s := by
  obtain ⟨⟨c, dct, dt, sl⟩, hl, hc, n, hd⟩ := hL
  replace hc : c = .type "tuple" := hc
  replace hd : dt = .seq items n := hd
  subst hc hd
  refine callType_new F.called_enumerate (by decide) (F.typeCall_enumerate_1 _) (F.newCall_enumerate_1 _) (fun obj => F.args_object_init_2 obj _) F.entry_enumerate_new
    (meets_enumerate_newT l items n dct sl) ⟨hl, ?_⟩
  have hz : (s.heap.push { cls := .type "tuple_iterator", data := .fields #[.ref l, .int 0 0] }).objs.size = s.heap.objs.size + 1 := Heap.size_push ..
  show _ ∧ _
  rw [hz]
  have he : IsEnum ((s.heap.push { cls := .type "tuple_iterator", data := .fields #[.ref l, .int 0 0] }).push
      { cls := .type "enumerate", data := .fields #[.none, .bool false, .ref s.heap.objs.size, rawInt 0, .none, .none] }) (s.heap.objs.size + 1) s.heap.objs.size 0 .none := by
    have := Heap.get?_push_size (s.heap.push { cls := .type "tuple_iterator", data := .fields #[.ref l, .int 0 0] })
      (o := { cls := .type "enumerate", data := .fields #[.none, .bool false, .ref s.heap.objs.size, rawInt 0, .none, .none] }) rfl
    rw [hz] at this; exact this
  refine ⟨⟨_, he, rfl⟩, h _ he ⟨_, Heap.get?_push_of_some _ (Heap.get?_push_size _ rfl), rfl, rfl⟩ (by rw [Heap.size_push, hz]) fun b o x => Heap.get?_push_of_some _ (Heap.get?_push_of_some _ x)⟩
def IteT (K : PySem.W.Frag) (a : Addr) (n : Nat) : It :=
  ⟨fun i H => i < n ∧ ∃ xs : List V, SqT K H a xs ∧ xs.length = n, fun i H v H' => ∃ T x, v = .ref T ∧ H T = none ∧ H' = upd H T (.tup [.int (i : Nat), x]) ∧ ∀ xs, SqT K H a xs → xs[i]? = some x, fun i H => n ≤ i ∧ ∃ xs : List V, SqT K H a xs ∧ xs.length = n⟩
theorem turn_enumT {P : Program} {w : World} {K : PySem.W.Frag} {elts : List Expr} {kk : Nat} {tpos : Pos} (a e it : Addr) (n : Nat) :
    Turn P w K (.Tuple elts kk tpos) (IteT K a n) [e, it] e (fun i h => i ≤ n ∧ (∃ old, IsEnum h e it ((i : Nat) : Int) old) ∧ IsTupIter h it a i ∧ e ≠ it) where
  mem := by simp
  obj := fun i h ⟨_, ⟨old, he⟩, ⟨o, ho, hc, hd⟩, _⟩ b hb => by
    rcases List.mem_cons.mp hb with rfl | hb
    · exact ⟨_, he, fun v q => nomatch q⟩
    · rw [List.mem_singleton.mp hb]
      exact ⟨o, ho, fun v q => by rw [hd] at q; cases q⟩
  keep := fun i h h' ⟨hi, ⟨old, he⟩, ⟨o, ho, r⟩, ne⟩ k => ⟨hi, ⟨old, k e (by simp) _ he⟩, ⟨o, k it (by simp) _ ho, r⟩, ne⟩
  item := by
    intro X hP hw hK hc i ps s σ H E J hf st hg
    subst hP hw hK
    obtain ⟨hi, ⟨old, he⟩, hit, ne⟩ := st
    obtain ⟨hlt, xs, hq, hxl⟩ := hg
    obtain ⟨its, rv, p, hz⟩ := J.tuple hq
    have le : e < s.heap.objs.size := Heap.lt_size he
    have li : it < s.heap.objs.size := let ⟨_, q, _⟩ := hit; Heap.lt_size q
    have nai : a ≠ it := by
      rintro rfl
      obtain ⟨o1, e1, c1, _⟩ := p
      obtain ⟨o2, e2, c2, _⟩ := hit
      rw [e1] at e2; cases e2
      rw [c1] at c2; exact absurd c2 (by decide)
    have nea : e ≠ a := by
      rintro rfl
      obtain ⟨o1, e1, c1, _⟩ := p
      have he' : s.heap.get? e = some _ := he
      rw [e1] at he'; cases he'
      have c2 : Value.type "enumerate" = Value.type "tuple" := c1
      exact absurd c2 (by decide)
    have hsz0 : its.toArray.size = n := by rw [List.size_toArray, ← rv.length, hxl]
    have Dr := draws_tup (prog := X.prog) (w := X.w) (A := X.A.in1) (J.ok.hd hc) it a nai its.toArray
    refine wpAny_pyNext_enum_itemD Dr he ⟨hit, p⟩ (by rw [hsz0]; exact hlt) ne (by simp [ne, nea]) fun u h' tk hx ho hit' hT hsz hk => ?_
    obtain ⟨hit', _⟩ := hit'
    have hu : its[i]? = some u := by simpa using hx
    have hxx : xs[i]? = some (xs[i]'(by omega)) := List.getElem?_eq_getElem _
    generalize xs[i]'(by omega) = x at hxx
    obtain ⟨u', hu', ru⟩ := rv.get hxx
    rw [hu] at hu'; cases hu'
    refine ⟨_, rfl, wpAny_letOwnedTupleGo_enum (s := { s with heap := h', toks := tk + 1 }) ho fun h2 he2 sb => ?_⟩
    have hT2 : h2.get? s.heap.objs.size = some { cls := .type "tuple", data := .seq #[.int i tk, u] } := (sb.2 _ (Nat.ne_of_gt le)).trans hT
    have new : ObjOk X.prog X.w (upd H s.heap.objs.size (.tup [.int (i : Nat), x])) h2 s.heap.objs.size (.tup [.int (i : Nat), x]) :=
      ⟨by show 2 ≤ sizeLine; decide, [.int i tk, u], .cons ⟨_, rfl⟩ (.cons ru .nil), ⟨_, hT2, rfl, _, rfl⟩⟩
    have J1 : Inv X ps σ (upd H s.heap.objs.size (.tup [.int (i : Nat), x])) { s with heap := h2, toks := tk + 1 } :=
      J.turnedNew (ch := [e, it]) (fun b ob hb q => (sb.2 b fun y => hb (by simp [y])).trans (hk b ob (fun y => hb (by simp [y])) (fun y => hb (by simp [y])) q)) hf (Nat.le_refl _) new
    obtain ⟨oi, hoi, ri⟩ := hit'
    refine ⟨.ref s.heap.objs.size, _, J1, rfl, ⟨_, x, rfl, J.hok.fresh (Nat.le_refl _), rfl, fun ys hy => by rw [J.tuple_inj hy hq]; exact hxx⟩, ⟨hlt, ⟨_, by rw [show ((i + 1 : Nat) : Int) = (i : Int) + 1 by omega]; exact he2⟩, ⟨oi, (sb.2 it (Ne.symm ne)).trans hoi, ri⟩, ne⟩, fun b hb => ?_⟩
    have lb : b < s.heap.objs.size := by
      rcases List.mem_cons.mp hb with rfl | hb
      · exact le
      · rw [List.mem_singleton.mp hb]; exact li
    rw [upd_ne (Nat.ne_of_lt lb)]
    exact (hf b hb).1
  done := by
    intro X hP hw hK hc i ps s σ H E J hf st hg
    subst hP hw hK
    obtain ⟨hi, ⟨old, he⟩, hit, ne⟩ := st
    obtain ⟨f0, f1, f2, f3, f4, f5⟩ := hf it (by simp)
    obtain ⟨hle, xs, hq, hxl⟩ := hg
    obtain ⟨its, rv, p, hz⟩ := J.tuple hq
    obtain rfl : i = n := Nat.le_antisymm hi hle
    have nai : a ≠ it := by
      rintro rfl
      obtain ⟨o1, e1, c1, _⟩ := p
      obtain ⟨o2, e2, c2, _⟩ := hit
      rw [e1] at e2; cases e2
      rw [c1] at c2; exact absurd c2 (by decide)
    have hsz0 : its.toArray.size = i := by rw [List.size_toArray, ← rv.length, hxl]
    have Dr := draws_tup (prog := X.prog) (w := X.w) (A := X.A.in1) (J.ok.hd hc) it a nai its.toArray
    exact wpAny_pyNext_enum_endD Dr he (by rw [hsz0]; exact ⟨hit, p⟩) fun h' eb => ⟨rfl, J.turned (t' := s.toks) (fun b o hb q => eb b o hb q) f0 f1 f3 f4 f5⟩
  self := fun A i s Q E ⟨_, ⟨_, he⟩, _⟩ h => wpAny_pyIter_enum he h
def iEnumT (K : PySem.W.Frag) (ta : TA) : TI := fun σ H R => ta σ H fun vs H1 => ∃ a xs, vs = [.ref a] ∧ SqT K H1 a xs ∧ R (IteT K a xs.length) H1
theorem pi_enumT {X : Cx} {e : Expr} {ta : TA} {p pos tpos : Pos} {elts : List Expr} {kk : Nat} (hg : Gl X "enumerate") (hm : X.mg "enumerate" = none) (ha : PA X [e] ta) (hs : starEach [e] X.env = [(false, eval e X.env)] := by rfl) :
    PI X (.Tuple elts kk tpos) (.Call (.Name "enumerate" p) [e] [] pos) (iEnumT X.K ta) := by
  refine ⟨fun pins s σ H R I h => ?_⟩
  refine Call_ (ld_blt I hg hm boot_enumerate (PyProof.Rows.callWith_type1 (thn (ha.run pos pins s σ H _ I h) fun us s1 ⟨vs, H1, I1, r1, q1⟩ => ?_) hs rfl))
  obtain ⟨a, xs, ex, hq, q⟩ := q1
  subst ex
  cases r1 with
  | cons r rr =>
    cases rr
    cases r
    obtain ⟨its, rv, p', hz⟩ := I1.tuple hq
    refine call_enumerate_tup p' fun h' he hit hsz hk => wpAny_pyIter_enum he ?_
    have I2 : Inv X pins σ H1 { s1 with heap := h' } := I1.kept (t' := s1.toks) hk
    refine ⟨s1.heap.objs.size + 1, [s1.heap.objs.size + 1, s1.heap.objs.size], _, _, H1, rfl, I2, turn_enumT a (s1.heap.objs.size + 1) s1.heap.objs.size xs.length, ⟨Nat.zero_le _, ⟨.none, he⟩, hit, Nat.succ_ne_self _⟩, fun b hb => ?_, q⟩
    have up : s1.heap.objs.size ≤ b := by
      rcases List.mem_cons.mp hb with rfl | hb
      · exact Nat.le_succ _
      · rw [List.mem_singleton.mp hb]; exact Nat.le_refl _
    exact I1.fpOk up (I1.hok.fresh up)
theorem itok_enumT {K : PySem.W.Frag} {B : List Addr} {H : Hp} {A : List Addr} {s : Sto} {a : Addr} {vs : List V} {ds : List D} (hF : TpF K (Fz B H A s) a vs) (hd : DatL K (Fz B H A s) A ds vs) : ItOk K B (IteT K a vs.length) (enumD ds) noG H A s := by
  intro B' H' A' s' R e p hg i
  have hs' : SqT K H' a vs := sqT_fz (hF.same e)
  have hlen : (enumD ds).length = ds.length := by simp [enumD]
  refine ⟨fun d hi => ?_, fun hi => ⟨by rw [hd.length, ← hlen]; exact hi, vs, hs', rfl⟩⟩
  have hil : i < ds.length := by
    have := (List.getElem?_eq_some_iff.mp hi).1
    omega
  have hdi : d = .tup [.int (i : Nat), ds[i]] := by
    have : (enumD ds)[i]? = some (.tup [.int (i : Nat), ds.getD i .non]) := by
      unfold enumD
      rw [List.getElem?_map, List.getElem?_range hil]; rfl
    rw [this] at hi
    rw [← Option.some.inj hi, List.getD_eq_getElem?_getD, List.getElem?_eq_getElem hil]; rfl
  subst hdi
  obtain ⟨v, hv, dv⟩ := hd.get (List.getElem?_eq_getElem hil)
  refine ⟨⟨by rw [hd.length]; exact hil, vs, hs', rfl⟩, fun x H2 ⟨T, y, ex, hT, eH, hy⟩ => ?_⟩
  have h1 := hy vs hs'
  rw [hv] at h1
  cases h1
  subst ex
  subst eH
  obtain ⟨r, e2, f⟩ := R.laid (o := .tup [.int (i : Nat), v]) hT
  exact ⟨r, e2, .tup (.of f) (.cons (.int _) (.cons ((dv.mono e p).ext e2) .nil))⟩
def iEnT (t : AD) : ID := fun env s R => t env s fun xs s1 => ∃ ds, xs = [.tup ds] ∧ R (enumD ds) noG s1
theorem mono_iEnT {t : AD} (m : Mono t) : MonoI (iEnT t) := fun _ _ _ _ f h => m _ _ _ _ (fun _ _ ⟨z, e, q⟩ => ⟨z, e, f _ _ _ q⟩) h
theorem pid_enumT {X : DX} {e : Expr} {t : AD} {p pos tpos : Pos} {elts : List Expr} {kk : Nat} (hg : Gl X "enumerate") (hm : X.mg "enumerate" = none) (ha : PAD X [e] t) (hs : starEach [e] X.env = [(false, eval e X.env)] := by rfl) : PID X (.Tuple elts kk tpos) (.Call (.Name "enumerate" p) [e] [] pos) (iEnT t) :=
  ⟨pi_imp (pi_enumT hg hm ha.pa hs) fun σ H R ⟨env, s, A, B, w, h⟩ => rdA_go ha.mono w h fun xs s1 vs H1 A1 ⟨ds, ex, q⟩ w1 e1 dv => by
    subst ex
    obtain ⟨v, rfl, d⟩ := one_of dv
    cases d with
    | @tup a us _ hF hd => exact ⟨a, us, rfl, sqT_fz hF, q _ _ _ w1.rs e1 (itok_enumT hF hd)⟩, mono_iEnT ha.mono⟩
def gTwo (g1 g2 : GD) : GD := fun d env s Q => ∃ a b, d = .tup [a, b] ∧ g1 a env s fun env1 s1 => g2 b env1 s1 Q
theorem mono_gTwo {g1 g2 : GD} (m1 : MonoG g1) (m2 : MonoG g2) : MonoG (gTwo g1 g2) := fun _ _ _ _ _ f ⟨a, b, e, q⟩ => ⟨a, b, e, m1 _ _ _ _ _ (fun _ _ q => m2 _ _ _ _ _ f q) q⟩
theorem pgd_two {X : DX} {e1 e2 : Expr} {g1 g2 : GD} {k : Nat} {pos : Pos} (hc : X.calm = true) (h1 : PGD X e1 g1) (h2 : PGD X e2 g2)
    (hs1 : (assignEach [e1, e2] X.env).map (·.2) = assign e1 X.env :: (assignEach [e2] X.env).map (·.2) := by rfl) (hs2 : (assignEach [e2] X.env).map (·.2) = assign e2 X.env :: (assignEach [] X.env).map (·.2) := by rfl)
    (hn : (assignEach [e1, e2] X.env).length = 2 := by rfl) (hst : (assignEach [e1, e2] X.env).findIdx? (·.1) = none := by rfl) : PGD X (.Tuple [e1, e2] k pos) (gTwo g1 g2) :=
  ⟨pg_imp (pg_tup hc (pgs_cons h1.pg (pgs_cons h2.pg pgs_nil hs2) hs1) hn hst) fun v σ H Q ⟨env, s, A, B, d, w, dv, a, b, ed, q⟩ => by
    subst ed
    cases dv with
    | tup hs hd =>
      cases hd with
      | cons da hd =>
        cases hd with
        | cons db hd =>
          cases hd
          refine ⟨_, _, rfl, sqT_fz hs, rfl, _, _, rfl, ⟨env, s, A, B, a, w, da, ?_⟩⟩
          refine h1.mono _ _ _ _ _ (fun env1 s1 q1 σ1 H1 A1 r e re => ?_) q
          exact ⟨_, _, rfl, ⟨env1, s1, A1, B, b, ⟨r, re, (w.to r e).z⟩, db.ext e, h2.mono _ _ _ _ _ (fun env2 s2 q2 σ2 H2 A2 r2 e2 re2 => ⟨rfl, q2 σ2 H2 A2 r2 (e.trans e2) re2⟩) q1⟩⟩, mono_gTwo h1.mono h2.mono⟩
end Dl
set_option Elab.async false
set_option linter.all false
set_option autoImplicit false
set_option maxRecDepth 100000
set_option maxHeartbeats 4000000
namespace Dl
open PySem PySem.Spec PyProof.Rows L2
structure KwBI (K : PySem.W.Frag) (fd : FuncData) (ps : List Str) (b : Str) (i : Int) : Prop where
  off : ∃ ds, Vals [V.int i] ds ∧ Binds K fd ps ds
  on : KBn K fd ps (ps.length - 1) [b] (fun us ws => us ++ ws) (fun vs zs => vs ++ zs)
/-- a method of the class c that keeps its promise; its last parameter is asked by a keyword -/
def KnMK (P : Program) (w : World) (K : PySem.W.Frag) (mg : Str → Option Value) (base : Heap) (CX : CXT) (c m b : Str) (i : Int) (k : Nat) (ps : List Str) (sp : SpD) : Prop :=
  ∃ (C f : Addr) (fd : FuncData), ClsN K c C ∧ Meth K C m f ∧ FnD P w K mg base CX k f fd ps sp ∧ KwBI K fd ps b i
def AtMK (K : PySem.W.Frag) (c m qual b : Str) (i : Int) (st : Stmt) (ps : List Str) : Prop := ∃ (C f : Addr) (fd : FuncData), ClsN K c C ∧ Meth K C m f ∧ Fun K m qual st f fd ∧ KwBI K fd ps b i
theorem KnMK.mk {P : Program} {w : World} {K : PySem.W.Frag} {mg : Str → Option Value} {base : Heap} {c m qual b : Str} {i : Int} {st : Stmt} {N ps : List Str} {k : Nat} {sp : SpD} {tb : SD} (a : AtMK K c m qual b i st ps) (S : FnScope N ps (defScope st)) (mono : MonoSp sp)
    (len : ∀ ds s Q E, sp ds s Q E → ds.length = ps.length)
    (body : ∀ (f : Addr) (cdv : Value) (A : Around) (outer : List PySem.Env) (s : Shared) (H : Hp) (E : XK), RoomG k (A.deeper (envOfC qual (defScope st) s.heap.objs.size f cdv)) → PSsD (dx0 (cxOf CX0 P w K mg base N qual (defScope st) f cdv A outer s H E).nox) (defBody st) tb)
    (h : ∀ ds s Q E, sp ds s Q E → tb (endsOf Q) (envD N ds) s) : KnMK P w K mg base CX0 c m b i (k + 1) ps sp := by
  obtain ⟨C, f, fd, hC, hm, F, hb⟩ := a
  exact ⟨C, f, fd, hC, hm, fnD F S mono len (body f) h, hb⟩
theorem pt_of_pc {X : Cx} {op : CmpOp} {a b : Expr} {t : TE} {pos : Pos} (h : PC X op a b t) (hm : behindInMarks op b = false) : PT X (.Compare a [op] [b] pos) (tTest t) := by
  refine ⟨fun pins s σ H Q I q => ?_⟩
  refine wpAny_isTrue_Compare1 (thn (h.run pins s σ H _ I q) fun v s1 h1 => thn h1 fun u s2 h2 => thn h2 fun c s3 ⟨z, H3, I3, r3, k, e, q3⟩ => ?_) hm
  subst e
  cases r3
  exact wpAny_truthy_bool ⟨H3, I3, q3⟩
section
variable {X : DX} {pos : Pos} {o i : Expr} {td ty : ED}
theorem ptd_dnotin (hu : X.A.units + 64 < cLine) (hi : PD X i ty) (ho : PD X o td) (hm : behindInMarks .NotIn o = false) : PTD X (.Compare i [.NotIn] [o] pos) (dTest (dDIn Bool.not ty td)) :=
  ⟨pt_imp (pt_of_pc (pc_dnotin (by omega) hi.pe ho.pe) hm) fun σ H Q ⟨env, s, A, B, w, h⟩ => rdE_go hi.mono w h fun y s1 u H1 A1 h1 w1 e1 dy => rdE_go ho.mono w1 h1 fun x s2 v H2 A2 ⟨dv, z, hd, hg, q⟩ w2 e2 dx => by
    obtain ⟨a, rfl, at'⟩ := dictD_rd w2.rs dx hd
    obtain ⟨r, g, z1, z2⟩ := dget_rd w2.rs at' (dy.ext e2) hg
    refine ⟨a, r, rfl, g, ?_⟩
    rw [isSome_of z1 z2]
    obtain ⟨k, ek, q⟩ := q
    cases ek
    exact ⟨_, rfl, q _ _ w2.rs (e1.trans e2)⟩, mono_test (mono_din hi.mono ho.mono)⟩
def dPar3 (i j l : Nat) (ta : AD) : SD := fun E env s => ta env s fun xs s1 => ∃ a b c, xs = [a, b, c] ∧ E.nx (((env.set i (some a)).set j (some b)).set l (some c)) s1
theorem mono_par3 {i j l : Nat} {ta : AD} (m : Mono ta) : MonoS (dPar3 i j l ta) := fun _ _ _ _ le h => m _ _ _ _ (fun _ _ ⟨a, b, c, e, q⟩ => ⟨a, b, c, e, le.nx _ _ q⟩) h
theorem psd_par3 {X : DX} {i j l : Nat} {x y z : Str} {a b c : Expr} {ta : AD} {px py pz pt pos : Pos} {kt k2 : Nat} {pt2 : Pos} (hc : X.calm = true) (hN : X.N.Nodup) (hi : X.N[i]? = some x) (hj : X.N[j]? = some y) (hl : X.N[l]? = some z) (hij : i ≠ j) (hil : i ≠ l) (hjl : j ≠ l)
    (hx : X.env.scope.names.lookup x = some .local) (hy : X.env.scope.names.lookup y = some .local) (hz : X.env.scope.names.lookup z = some .local) (ha : PAD X [a, b, c] ta)
    (hw : swappedStores [.Tuple [.Name x px, .Name y py, .Name z pz] kt pt] (.Tuple [a, b, c] k2 pt2) X.env = pure (some [x, y, z]) := by rfl)
    (hs : swapsWithSole [.Tuple [.Name x px, .Name y py, .Name z pz] kt pt] (.Tuple [a, b, c] k2 pt2) pos.line X.env = pure false := by rfl) :
    PSD X (.Assign [.Tuple [.Name x px, .Name y py, .Name z pz] kt pt] (.Tuple [a, b, c] k2 pt2) pos) (dPar3 i j l ta) :=
  ⟨ps_imp (ps_par3 hc hN hi hj hl hij hil hjl hx hy hz ha.pa hw hs) fun D σ H ⟨env, s, A, B, w, h⟩ => rdA_go ha.mono w h fun xs s1 vs H1 A1 ⟨u, v, t, ex, q⟩ w1 e1 dv => by
    subst ex
    cases dv with
    | cons d1 dv =>
      cases dv with
      | cons d2 dv =>
        cases dv with
        | cons d3 dv =>
          cases dv
          exact ⟨_, _, _, rfl, q _ _ _ w1.rs e1 (((w1.re.set i d1).set j d2).set l d3)⟩, mono_par3 ha.mono⟩
end
end Dl
set_option Elab.async false
set_option linter.all false
set_option autoImplicit false
set_option maxRecDepth 100000
set_option maxHeartbeats 4000000
namespace Dl
open PySem PySem.Spec PyProof.Rows L2
def keysN (n : Nat) : List Key := (List.range n).map fun i : Nat => .inl (i : Int)
def zipN (vs : List D) : List (Key × D) := (keysN vs.length).zip vs
theorem keysN_len (n : Nat) : (keysN n).length = n := by simp [keysN]
theorem keysN_succ (n : Nat) : keysN (n + 1) = keysN n ++ [.inl (n : Int)] := by simp [keysN, List.range_succ]
theorem zipN_fst (vs : List D) : (zipN vs).map (·.1) = keysN vs.length := by
  unfold zipN
  rw [List.map_fst_zip]
  rw [keysN_len]; exact Nat.le_refl _
theorem zipN_snd (vs : List D) : (zipN vs).map (·.2) = vs := by
  unfold zipN
  rw [List.map_snd_zip]
  rw [keysN_len]; exact Nat.le_refl _
theorem zipN_app (vs : List D) (v : D) : zipN (vs ++ [v]) = zipN vs ++ [(.inl (vs.length : Int), v)] := by
  unfold zipN
  rw [List.length_append, List.length_singleton, keysN_succ, List.zip_append (by rw [keysN_len])]; rfl
theorem zipN_no (vs : List D) (k : Nat) (h : vs.length ≤ k) : ((zipN vs).any fun p => decide (p.1 = (.inl (k : Int) : Key))) = false := by
  rw [List.any_eq_false]
  intro p hp e
  have e := of_decide_eq_true e
  have h1 : p.1 ∈ (zipN vs).map (·.1) := List.mem_map.mpr ⟨p, hp, rfl⟩
  rw [zipN_fst, e] at h1
  unfold keysN at h1
  obtain ⟨i, hi, ei⟩ := List.mem_map.mp h1
  have hi := List.mem_range.mp hi
  have : (i : Int) = k := by injection ei
  omega
theorem getN_no (vs : List D) (k : Nat) (h : vs.length ≤ k) : getP (zipN vs) (.inl (k : Int)) = none := by
  unfold getP
  have := zipN_no vs k h
  rw [List.any_eq_false] at this
  rw [List.find?_eq_none.mpr (fun p hp => this p hp)]; rfl
theorem getN_rev : ∀ (vs : List D) (k : Nat) (v : D), vs[k]? = some v → getP (zipN vs) (.inl (k : Int)) = some v := by
  have key : ∀ (n : Nat) (vs : List D), vs.length = n → ∀ (k : Nat) (v : D), vs[k]? = some v → getP (zipN vs) (.inl (k : Int)) = some v := by
    intro n
    induction n with
    | zero =>
      intro vs hv k v h
      rw [List.eq_nil_of_length_eq_zero hv] at h
      simp at h
    | succ n ih =>
    intro vs hv k v h
    have hne : vs ≠ [] := fun e => by rw [e] at hv; cases hv
    have e := List.dropLast_concat_getLast hne
    have hdl : vs.dropLast.length = n := by rw [List.length_dropLast]; omega
    generalize vs.getLast hne = w at e
    generalize vs.dropLast = ys at e hdl
    subst e
    have ih := ih ys hdl
    rw [zipN_app]
    unfold getP
    rw [List.find?_append]
    by_cases hk : k < ys.length
    · rw [List.getElem?_append_left hk] at h
      have := ih k v h
      unfold getP at this
      cases hf : (zipN ys).find? fun p => decide (p.1 = (.inl (k : Int) : Key)) with
      | none => rw [hf] at this; cases this
      | some p => rw [hf] at this; exact this
    · have hk' : k = ys.length := by
        have := (List.getElem?_eq_some_iff.mp h).1
        rw [List.length_append, List.length_singleton] at this
        omega
      subst hk'
      have := zipN_no ys ys.length (Nat.le_refl _)
      rw [List.any_eq_false] at this
      rw [List.find?_eq_none.mpr (fun p hp => this p hp)]
      rw [List.getElem?_append_right (Nat.le_refl _), Nat.sub_self] at h
      have h : w = v := Option.some.inj h
      subst h
      simp
  exact fun vs k v h => key _ vs rfl k v h
theorem dictD_N {s : Sto} {l : Nat} {vs : List D} (h : s[l]? = some (some (.dk (keysN vs.length) vs))) : dictD s (.ref l) = some (.k (zipN vs)) := by
  have := dictD_mo (dv := .k (zipN vs)) (s := s) (l := l) (by show s[l]? = some (some (.dk ((zipN vs).map (·.1)) ((zipN vs).map (·.2)))); rw [zipN_fst, zipN_snd]; exact h)
  exact this
end Dl
set_option Elab.async false
set_option linter.all false
set_option autoImplicit false
set_option maxRecDepth 100000
set_option maxHeartbeats 4000000
namespace Dl
open PySem PySem.Spec PyProof.Rows L2
section
variable {pos p : Pos} {e : Expr} {te : ED}
def orD : Option (Nat × Nat × Nat) → D
  | none => .non
  | some (a, b, c) => .tup [.int (a : Nat), .int (b : Nat), .int (c : Nat)]
end
end Dl
set_option Elab.async false
set_option linter.all false
set_option autoImplicit false
set_option maxRecDepth 100000
set_option maxHeartbeats 4000000
namespace Sx
open PySem PySem.Spec PyProof.Rows L2 Dl Bk
open Fb (Kp)
open Fa (strL)
open Fi (Is sigs)
open Tt (segD stateF StOk)
abbrev Cell : Type := Nat × Option (Nat × Nat × Nat)
def sgD (c : Nat) : D := .str ⟨#[c]⟩
def ceD : Cell → D
  | (c, o) => .tup [sgD c, orD o]
abbrev Pairs : Type := List (Str × Str)
def psD (ps : Pairs) : D := .tup (ps.map segD)
def inD (k : Nat) : D := .int (k : Nat)
structure Sh where
  cells : List Cell
  pairs : List Pairs
  up : List Nat
def cellsW (k j : Nat) (w : Str) : List Cell := (List.range w.cps.size).map fun i => (w.cps.getD i 0, some (k, j, i))
def cellsF (k : Nat) : Nat → Pairs → List Cell
  | _, [] => []
  | j, p :: r => cellsW k j p.2 ++ cellsF k (j + 1) r
/-- so many cells, from the place i on, replaced -/
def Sh.rep (m : Sh) (i g : Int) (new : List Cell) : Sh := ⟨m.cells.take i.toNat ++ new ++ m.cells.drop (i + g).toNat, m.pairs, m.up⟩
def putC (z : Str) : List Cell := z.cps.toList.map fun c => (c, none)
def Sh.commit (m : Sh) (i g : Int) (ps : Pairs) : Sh := ⟨(m.rep i g (cellsF m.pairs.length 0 ps)).cells, m.pairs ++ [ps], m.up ++ [m.pairs.length]⟩
def allSegs (segs : Pairs) (t : Str) : Pairs := segs ++ (if t = "" then [] else [(t, t)])
abbrev shF (l q : Nat) : List (Str × D) := [("cell_row", .ref (l + 1)), ("pair_rows", .ref (l + 2)), ("upright", .ref (l + 3)), ("past", .ref (l + 4)), ("later", .ref q)]
/-- the sheet m stands at l, with at most n steps -/
def ShAt (l : Nat) (m : Sh) (n : Nat) (s : Sto) : Prop := ∃ (q : Nat) (past : List D), s[l]? = some (some (.ins "Sheet" (shF l q))) ∧ s[l + 1]? = some (some (.lst (m.cells.map ceD))) ∧
  s[l + 2]? = some (some (.dk (keysN (m.pairs.map psD).length) (m.pairs.map psD))) ∧ s[l + 3]? = some (some (.lst (m.up.map inD))) ∧ s[l + 4]? = some (some (.lst past)) ∧ past.length ≤ n
/-- whether an origin is of a segment -/
def isSeg (k j : Nat) : Option (Nat × Nat × Nat) → Bool
  | some (a, b, _) => a == k && b == j
  | none => false
def spots (k j : Nat) (os : List (Option (Nat × Nat × Nat))) : List Nat := (List.range os.length).filter fun i => isSeg k j (os.getD i none)
/-- where a segment stands whole -/
def whereC (cs : List Cell) (k j : Nat) (w : Str) : Option Nat :=
  match spots k j (cs.map (·.2)) with
  | [] => none
  | i :: r => if (i :: r).length = w.length ∧ (cs.drop i).take w.length = cellsW k j w then some i else none
def opD : Option Nat → D
  | none => .non
  | some i => inD i
def Sh.mend (m : Sh) (k j i : Nat) (ps : Pairs) (p : Str × Str) (w : Str) : Sh := ⟨(m.rep i (p.2.length : Nat) (cellsW k j w)).cells, m.pairs.set k (ps.set j (p.1, w)), m.up⟩
def SgOk (p : Str × Str) : Prop := sgnIn az p.1 = true ∧ 1 ≤ p.1.length ∧ p.1.length ≤ 40 ∧ (sgnF Tt.AZ 12 (.str p.2) = true ∨ p.2 = p.1)
/-- an origin of a segment that was committed -/
def orOk (pairs : List Pairs) : Option (Nat × Nat × Nat) → Prop
  | some (k, j, _) => ∃ ps, pairs[k]? = some ps ∧ j < ps.length
  | none => True
structure ShOk (m : Sh) : Prop where
  up : m.up = List.range m.pairs.length
  ps : ∀ ps ∈ m.pairs, 1 ≤ ps.length ∧ ps.length ≤ 45 ∧ ∀ p ∈ ps, SgOk p
  os : ∀ c ∈ m.cells, orOk m.pairs c.2
/-- the law's own list of m stands at h + 2 -/
def HeAt (h : Nat) (m : Sh) (s : Sto) : Prop := ∃ rs : List Nat, rs.length = m.pairs.length ∧ (∀ (a b r : Nat), rs[a]? = some r → rs[b]? = some r → a = b) ∧ (∀ r ∈ rs, h + 2 < r) ∧ s[h]? = some (some (.dk (keysN (rs.map D.ref).length) (rs.map D.ref))) ∧ s[h + 1]? = some (some (.lst (m.up.map inD))) ∧
  s[h + 2]? = some (some (.lst [.lst (m.cells.map ceD), .ref h, .ref (h + 1)])) ∧ ∀ (k r : Nat) (ps : Pairs), rs[k]? = some r → m.pairs[k]? = some ps → s[r]? = some (some (.lst (ps.map segD)))
/-- what lies below h stays -/
structure Lo (h : Nat) (s s' : Sto) : Prop where
  len : s.length ≤ s'.length
  at_ : ∀ j, j < h → s'[j]? = s[j]?
/-- what is not within a .. b stays -/
structure Kr (a b : Nat) (s s' : Sto) : Prop where
  len : s.length ≤ s'.length
  at_ : ∀ j, j < s.length → (j < a ∨ b < j) → s'[j]? = s[j]?
theorem Kr.refl {a b : Nat} {s : Sto} : Kr a b s s := ⟨Nat.le_refl _, fun _ _ _ => rfl⟩
theorem Kr.trans {a b : Nat} {s s1 s2 : Sto} (h : Kr a b s s1) (g : Kr a b s1 s2) : Kr a b s s2 := ⟨Nat.le_trans h.len g.len, fun j hj hc => (g.at_ j (Nat.lt_of_lt_of_le hj h.len) hc).trans (h.at_ j hj hc)⟩
theorem Kr.get {a b j : Nat} {s s' : Sto} {o : Option MO} (h : Kr a b s s') (g : s[j]? = some o) (hc : j < a ∨ b < j) : s'[j]? = some o := (h.at_ j (List.getElem?_eq_some_iff.mp g).1 hc).trans g
/-- ink, sheet and held list -/
structure Wd (c : Int) (p l h : Nat) (m : Sh) (n : Nat) (s : Sto) : Prop where
  S : Is c p s
  SH : ShAt l m n s
  H : HeAt h m s
  pl : p < l
  lh : l + 4 < h
  ok : ShOk m
/-- a place from 0 to n -/
def plOk (n : Nat) : D → Bool
  | .int i => decide (0 ≤ i) && decide (i ≤ n)
  | _ => false
/-- so many cells, from the place i on -/
def mnOk (n : Nat) (i least : Int) : D → Bool
  | .int m => decide (0 ≤ m) && (decide (least ≤ m) && decide (i + m ≤ n))
  | _ => false
def inI : D → Int
  | .int i => i
  | _ => 0
def sp_Sheet___init__ : SpD := fun ds s Q _ => ∃ s0 : Sto, ds = [.ref s0.length] ∧ s = s0 ++ [some (.ins "Sheet" [])] ∧ ∀ s', ShAt s0.length ⟨[], [], []⟩ 0 s' → s'.length = s0.length + 6 → (∀ j, j < s0.length → s'[j]? = s0[j]?) → Q .non s'
theorem mono_Sheet___init__ : MonoSp sp_Sheet___init__ := fun _ _ _ _ _ _ f _ ⟨a, h1, h2, h⟩ => ⟨a, h1, h2, fun s' a1 a2 a3 => f _ _ (h s' a1 a2 a3)⟩
theorem len_Sheet___init__ : ∀ ds s Q E, sp_Sheet___init__ ds s Q E → ds.length = ["self"].length := fun _ _ _ _ ⟨_, h, _⟩ => by rw [h]; rfl
def sp_Sheet_cells : SpD := fun ds s Q _ => ∃ (l : Nat) (m : Sh) (n : Nat), ds = [.ref l] ∧ ShAt l m n s ∧ Q (.lst (m.cells.map ceD)) s
theorem mono_Sheet_cells : MonoSp sp_Sheet_cells := fun _ _ _ _ _ _ f _ ⟨a, b, c, h1, h2, h⟩ => ⟨a, b, c, h1, h2, f _ _ h⟩
theorem len_Sheet_cells : ∀ ds s Q E, sp_Sheet_cells ds s Q E → ds.length = ["self"].length := fun _ _ _ _ ⟨_, _, _, h, _⟩ => by rw [h]; rfl
def seenD (m : Sh) : D := .tup [.lst (m.cells.map ceD), .dk (keysN (m.pairs.map psD).length) (m.pairs.map psD), .lst (m.up.map inD)]
def sp_cells_of : SpD := fun ds s Q _ => ∃ (k j : Nat) (w : Str), ds = [inD k, inD j, .str w] ∧ w.length ≤ 1000 ∧ Q (.lst ((cellsW k j w).map ceD)) s
theorem mono_cells_of : MonoSp sp_cells_of := fun _ _ _ _ _ _ f _ ⟨a, b, c, h1, h2, h⟩ => ⟨a, b, c, h1, h2, f _ _ h⟩
theorem len_cells_of : ∀ ds s Q E, sp_cells_of ds s Q E → ds.length = ["commit", "segment", "writing"].length := fun _ _ _ _ ⟨_, _, _, h, _⟩ => by rw [h]; rfl
/-- what a commit ends in -/
def outC (m : Sh) (x a b w : D) (bad : Str → Prop) (good : Int → Int → Pairs → Prop) : Prop := (plOk m.cells.length x = false → bad "NoPlace") ∧ (plOk m.cells.length x = true → stateF (.tup [a, .int 0, b]) = false → bad "NoState") ∧
  ∀ segs t, plOk m.cells.length x = true → a = .tup (segs.map segD) → b = .str t → StOk segs 0 t → (allSegs segs t = [] → bad "Empty") ∧ (allSegs segs t ≠ [] → mnOk m.cells.length (inI x) 0 w = false → bad "NoNumber") ∧
    (allSegs segs t ≠ [] → mnOk m.cells.length (inI x) 0 w = true → good (inI x) (inI w) (allSegs segs t))
theorem outC.imp {m : Sh} {x a b w : D} {bad bad' : Str → Prop} {good good' : Int → Int → Pairs → Prop} (h : outC m x a b w bad good) (hb : ∀ k, bad k → bad' k) (hg : ∀ i g ps, good i g ps → good' i g ps) : outC m x a b w bad' good' :=
  ⟨fun e => hb _ (h.1 e), fun e1 e2 => hb _ (h.2.1 e1 e2), fun segs t e1 e2 e3 e4 => ⟨fun e => hb _ ((h.2.2 segs t e1 e2 e3 e4).1 e), fun e e' => hb _ ((h.2.2 segs t e1 e2 e3 e4).2.1 e e'), fun e e' => hg _ _ _ ((h.2.2 segs t e1 e2 e3 e4).2.2 e e')⟩⟩
def hasB (m : Sh) : D → Bool
  | .int i => decide (0 ≤ i) && decide (i < m.pairs.length)
  | _ => false
def stB (m : Sh) : D → Bool
  | .int i => decide (0 ≤ i) && decide (i.toNat ∈ m.up)
  | _ => false
def sgB (ps : Pairs) : D → Bool
  | .int j => decide (0 ≤ j) && decide (j < ps.length)
  | _ => false
def wrB (p : Str × Str) : D → Bool
  | .str z => sgnF Tt.AZ 12 (.str z) || decide (z = p.1)
  | _ => false
def sp_Sheet_need_segment : SpD := fun ds s Q E => ∃ (l : Nat) (m : Sh) (n : Nat) (x y : D), ds = [.ref l, x, y] ∧ ShAt l m n s ∧ (szB NN x = true ∧ szB NN y = true) ∧ (hasB m x = false → E "NoCommit" [] s) ∧
  ∀ (k : Nat) (ps : Pairs), x = inD k → m.pairs[k]? = some ps → (sgB ps y = false → E "NoNumber" [] s) ∧ (sgB ps y = true → Q .non s)
theorem mono_Sheet_need_segment : MonoSp sp_Sheet_need_segment := fun _ _ _ _ _ _ f g ⟨a, b, c, d, e, h1, h2, h3, h4, h5⟩ => ⟨a, b, c, d, e, h1, h2, h3, fun z => g _ _ _ (h4 z), fun k ps e1 e2 => ⟨fun z => g _ _ _ ((h5 k ps e1 e2).1 z), fun z => f _ _ ((h5 k ps e1 e2).2 z)⟩⟩
theorem len_Sheet_need_segment : ∀ ds s Q E, sp_Sheet_need_segment ds s Q E → ds.length = ["self", "commit", "segment"].length := fun _ _ _ _ ⟨_, _, _, _, _, h, _⟩ => by rw [h]; rfl
def sp_Sheet_segment : SpD := fun ds s Q _ => ∃ (l : Nat) (m : Sh) (n k j : Nat) (ps : Pairs) (p : Str × Str), ds = [.ref l, inD k, inD j] ∧ ShAt l m n s ∧ m.pairs[k]? = some ps ∧ ps[j]? = some p ∧ k ≤ 100000 ∧ j ≤ 100000 ∧ Q (segD p) s
theorem mono_Sheet_segment : MonoSp sp_Sheet_segment := fun _ _ _ _ _ _ f _ ⟨a, b, c, d, e, k, p, h1, h2, h3, h4, h5, h6, h⟩ => ⟨a, b, c, d, e, k, p, h1, h2, h3, h4, h5, h6, f _ _ h⟩
theorem len_Sheet_segment : ∀ ds s Q E, sp_Sheet_segment ds s Q E → ds.length = ["self", "commit", "segment"].length := fun _ _ _ _ ⟨_, _, _, _, _, _, _, h, _⟩ => by rw [h]; rfl
def sp_Sheet_where : SpD := fun ds s Q _ => ∃ (l : Nat) (m : Sh) (n k j : Nat) (ps : Pairs) (p : Str × Str), ds = [.ref l, inD k, inD j] ∧ ShAt l m n s ∧ m.cells.length ≤ 50000 ∧ m.pairs[k]? = some ps ∧ ps[j]? = some p ∧ k ≤ 100000 ∧ j ≤ 100000 ∧ (1 ≤ p.2.length ∧ p.2.length ≤ 40) ∧ Q (opD (whereC m.cells k j p.2)) s
theorem mono_Sheet_where : MonoSp sp_Sheet_where := fun _ _ _ _ _ _ f _ ⟨a, b, c, d, e, k, p, h1, h2, h3, h4, h5, h6, h7, h8, h⟩ => ⟨a, b, c, d, e, k, p, h1, h2, h3, h4, h5, h6, h7, h8, f _ _ h⟩
theorem len_Sheet_where : ∀ ds s Q E, sp_Sheet_where ds s Q E → ds.length = ["self", "commit", "segment"].length := fun _ _ _ _ ⟨_, _, _, _, _, _, _, h, _⟩ => by rw [h]; rfl
/-- what a mend ends in -/
def mendC (m : Sh) (x y w : D) (bad : Str → Prop) (good : Nat → Nat → Nat → Pairs → Str × Str → Str → Prop) : Prop := (stB m x = false → bad "NoCommit") ∧
  ∀ (k : Nat) (ps : Pairs), x = inD k → k ∈ m.up → m.pairs[k]? = some ps → (sgB ps y = false → bad "NoNumber") ∧ ∀ (j : Nat) (p : Str × Str), y = inD j → ps[j]? = some p → (wrB p w = false → bad "NoWord") ∧
    ∀ z, w = .str z → wrB p w = true → (whereC m.cells k j p.2 = none → bad "NoWhole") ∧ ∀ i, whereC m.cells k j p.2 = some i → good k j i ps p z
theorem mendC.imp {m : Sh} {x y w : D} {bad bad' : Str → Prop} {good good' : Nat → Nat → Nat → Pairs → Str × Str → Str → Prop} (h : mendC m x y w bad good) (hb : ∀ k, bad k → bad' k) (hg : ∀ k j i ps p z, good k j i ps p z → good' k j i ps p z) : mendC m x y w bad' good' :=
  ⟨fun e => hb _ (h.1 e), fun k ps e1 e2 e3 => ⟨fun e => hb _ ((h.2 k ps e1 e2 e3).1 e), fun j p e4 e5 => ⟨fun e => hb _ (((h.2 k ps e1 e2 e3).2 j p e4 e5).1 e), fun z e6 e7 => ⟨fun e => hb _ ((((h.2 k ps e1 e2 e3).2 j p e4 e5).2 z e6 e7).1 e), fun i e => hg _ _ _ _ _ _ ((((h.2 k ps e1 e2 e3).2 j p e4 e5).2 z e6 e7).2 i e)⟩⟩⟩⟩
end Sx
set_option Elab.async false
set_option linter.all false
set_option autoImplicit false
set_option maxRecDepth 100000
set_option maxHeartbeats 4000000
namespace Sx
open PySem PySem.Spec PyProof.Rows L2 Dl Bk
open Fb (Kp)
open Fi (Is)
open Tt (sp_is_segment sp_is_state segD stateF StOk)
def b_Sheet___init__ : SD := (dSeq (dSetF "Sheet" "cell_row" (dVar 0) (dNew dNil))
  (dSeq (dSetF "Sheet" "pair_rows" (dVar 0) dDNewK)
  (dSeq (dSetF "Sheet" "upright" (dVar 0) (dNew dNil))
  (dSeq (dSetF "Sheet" "past" (dVar 0) (dNew dNil))
  (dSetF "Sheet" "later" (dVar 0) (dNew dNil))))))
def b_Sheet_cells : SD := (dRet (dCB listF (dCons (dFld "Sheet" "cell_row" (dVar 0)) dNil)))
def b_cells_of : SD := (dRet (dLc (iEn (dCons (dVar 2) dNil)) (CT.g (.many [3, 4])) dYes (dTup (dCons (dVar 4) (dCons (dTup (dCons (dVar 0) (dCons (dVar 1) (dCons (dVar 3) dNil)))) dNil))) [3, 4]))
def b_Sheet_need_segment (W : WXD) : SD := (dSeq (dIfS (dOr (dNot (dTest (dCall sp_is_count [] (dCons (dVar 1) dNil)))) (dTest (dDIn Bool.not (dVar 1) (dFld "Sheet" "pair_rows" (dVar 0))))) (dRaise W "NoCommit") dNext)
  (dIfS (dOr (dNot (dTest (dCall sp_is_count [] (dCons (dVar 2) dNil)))) (dTest (dBin (oF geF) (dVar 2) (dCB lenF (dCons (dDGet (dFld "Sheet" "pair_rows" (dVar 0)) (dVar 1)) dNil))))) (dRaise W "NoNumber") dNext))
def b_Sheet_segment : SD := (dSeq (dDrop (dMeth noW "Sheet" "need_segment" sp_Sheet_need_segment [] (dVar 0) (dCons (dVar 1) (dCons (dVar 2) dNil))))
  (dRet (dBin (oF idxF) (dDGet (dFld "Sheet" "pair_rows" (dVar 0)) (dVar 1)) (dVar 2))))
def b_Sheet_where : SD := (dSeq (dAsg (dMeth noW "Sheet" "segment" sp_Sheet_segment [] (dVar 0) (dCons (dVar 1) (dCons (dVar 2) dNil))) (gTs [3, 4]))
  (dSeq (dAsg (dCall sp_cells_of [] (dCons (dVar 1) (dCons (dVar 2) (dCons (dVar 4) dNil)))) (gN 5))
  (dSeq (dAsg (dLc (iW (dFld "Sheet" "cell_row" (dVar 0))) (CT.g (.many [8, 9])) dYes (dVar 9) [8, 9]) (gN 6))
  (dSeq (dAsg (dLc (iEnL (dCons (dVar 6) dNil)) (CT.g (.many [10, 9])) (dAnd (dTest (dBin (oF isNotF) (dVar 9) (dC .non))) (dTest (dBin (oF eqF) (dSl (dVar 9) dNoP (dP (dC (.int 2)))) (dTup (dCons (dVar 1) (dCons (dVar 2) dNil)))))) (dVar 10) [10, 9]) (gN 7))
  (dSeq (dIfS (dOr (dTest (dBin (oF neF) (dCB lenF (dCons (dVar 7) dNil)) (dCB lenF (dCons (dVar 5) dNil)))) (dTest (dBin (oF neF) (dSl (dFld "Sheet" "cell_row" (dVar 0)) (dP (dBin (oF idxF) (dVar 7) (dC (.int 0)))) (dP (dBin (oF addF) (dBin (oF idxF) (dVar 7) (dC (.int 0))) (dCB lenF (dCons (dVar 5) dNil))))) (dVar 5)))) (dRet (dC .non)) dNext)
  (dRet (dBin (oF idxF) (dVar 7) (dC (.int 0)))))))))
end Sx
set_option Elab.async false
set_option linter.all false
set_option autoImplicit false
set_option maxRecDepth 100000
set_option maxHeartbeats 4000000
namespace Sx
open PySem PySem.Spec PyProof.Rows L2 Dl Bk
open Fb (Kp Kp.app Kp.set Kp.trans Kp.refl Kp.get)
open Fi (Is Is.up Is.lt Is.app Is.set sigs)
open Tt (segD stD stateF StOk ok_of sp_is_state)
open Fa (powOk10 ifD ifB ifT ifF two three strL strL_length strL_cps fapp txt_join_signs)
theorem mid_get {s0 r : Sto} {a : Option MO} : (s0 ++ a :: r)[s0.length]? = some a := by simp
theorem mid_set {s0 r : Sto} {a b x : Option MO} : ((s0 ++ a :: r) ++ [x]).set s0.length b = s0 ++ b :: (r ++ [x]) := by
  rw [List.append_assoc, List.cons_append, List.set_append_right _ _ (Nat.le_refl _), Nat.sub_self]; rfl
theorem ini {f : Str} {s0 r : Sto} {fs : List (Str × D)} {E : EndsD} (hf : fs.length < 1000) (h : E.nx [some (.ref s0.length)] (s0 ++ some (.ins "Sheet" (putD f (.ref (s0.length + r.length + 1)) fs)) :: (r ++ [some (.lst [])]))) :
    (dSetF "Sheet" f (dVar 0) (dNew dNil)) E [some (.ref s0.length)] (s0 ++ some (.ins "Sheet" fs) :: r) := by
  have e : (s0 ++ some (MO.ins "Sheet" fs) :: r).length = s0.length + r.length + 1 := by simp; omega
  refine ⟨Nat.zero_le _, _, rfl, _, fs, rfl, ?_, hf, ?_⟩
  · rw [List.getElem?_append_left (by simp)]; exact mid_get
  · rw [mid_set, e]; exact h
theorem iniD {f : Str} {s0 r : Sto} {fs : List (Str × D)} {E : EndsD} (hf : fs.length < 1000) (h : E.nx [some (.ref s0.length)] (s0 ++ some (.ins "Sheet" (putD f (.ref (s0.length + r.length + 1)) fs)) :: (r ++ [some (.dk [] [])]))) :
    (dSetF "Sheet" f (dVar 0) dDNewK) E [some (.ref s0.length)] (s0 ++ some (.ins "Sheet" fs) :: r) := by
  have e : (s0 ++ some (MO.ins "Sheet" fs) :: r).length = s0.length + r.length + 1 := by simp; omega
  refine ⟨_, rfl, _, fs, rfl, ?_, hf, ?_⟩
  · rw [List.getElem?_append_left (by simp)]; exact mid_get
  · rw [mid_set, e]; exact h
abbrev fl1 (x : D) : List (Str × D) := [("cell_row", x)]
abbrev fl2 (x y : D) : List (Str × D) := [("cell_row", x), ("pair_rows", y)]
abbrev fl3 (x y z : D) : List (Str × D) := [("cell_row", x), ("pair_rows", y), ("upright", z)]
abbrev fl4 (x y z w : D) : List (Str × D) := [("cell_row", x), ("pair_rows", y), ("upright", z), ("past", w)]
abbrev fl5 (x y z w v : D) : List (Str × D) := [("cell_row", x), ("pair_rows", y), ("upright", z), ("past", w), ("later", v)]
theorem put1 {x y : D} : putD "pair_rows" y (fl1 x) = fl2 x y := by
  rw [putD, if_neg (by decide)]; rfl
theorem put2 {x y z : D} : putD "upright" z (fl2 x y) = fl3 x y z := by
  rw [putD, if_neg (by decide)]; rw [putD, if_neg (by decide)]; rfl
theorem put3 {x y z w : D} : putD "past" w (fl3 x y z) = fl4 x y z w := by
  rw [putD, if_neg (by decide)]; rw [putD, if_neg (by decide)]; rw [putD, if_neg (by decide)]; rfl
theorem put4 {x y z w v : D} : putD "later" v (fl4 x y z w) = fl5 x y z w v := by
  rw [putD, if_neg (by decide)]; rw [putD, if_neg (by decide)]; rw [putD, if_neg (by decide)]; rw [putD, if_neg (by decide)]; rfl
theorem len_rf {s : Sto} {l : Nat} {xs : List D} (h : s[l]? = some (some (.lst xs))) : lenF s [.ref l] = some (.int xs.length) := by
  show (seqL s (.ref l)).map _ = _
  rw [seqL_ref h]; rfl
theorem list_rf {s : Sto} {l : Nat} {xs : List D} (h : s[l]? = some (some (.lst xs))) : listF s [.ref l] = some (.lst xs) := by
  show (seqA s (.ref l)).map _ = _
  rw [show seqA s (.ref l) = some xs from seqL_ref h]; rfl
theorem inD_inj {a b : Nat} (h : inD a = inD b) : a = b := by
  injection h with h
  omega
theorem sz_in {k : Nat} (h : k ≤ 100000) : szB NN (inD k) = true := szB_mono (n := 100) (by decide) (.int (k : Int)) (sz_int.mpr (by have hB : 1000000000000 ≤ big := (by decide); omega))
theorem get_pairs {m : Sh} {k : Nat} {ps : Pairs} (hk : m.pairs[k]? = some ps) : (DV.k (zipN (m.pairs.map psD))).get (inD k) = some (some (psD ps)) := by
  show some (getP (zipN (m.pairs.map psD)) (.inl (k : Int))) = _
  rw [getN_rev _ k (psD ps) (by rw [List.getElem?_map, hk]; rfl)]
theorem get_no {m : Sh} {k : Nat} (hk : m.pairs.length ≤ k) : (DV.k (zipN (m.pairs.map psD))).get (inD k) = some none := by
  show some (getP (zipN (m.pairs.map psD)) (.inl (k : Int))) = _
  rw [getN_no _ k (by rw [List.length_map]; exact hk)]
theorem hasB_in {m : Sh} {k : Nat} {ps : Pairs} (hk : m.pairs[k]? = some ps) : hasB m (inD k) = true := by
  have := (List.getElem?_eq_some_iff.mp hk).1
  show (decide (0 ≤ ((k : Nat) : Int)) && decide (((k : Nat) : Int) < (m.pairs.length : Int))) = true
  rw [decide_eq_true (by omega), decide_eq_true (by omega)]; rfl
theorem sgB_in {ps : Pairs} {j : Nat} {p : Str × Str} (hj : ps[j]? = some p) : sgB ps (inD j) = true := by
  have := (List.getElem?_eq_some_iff.mp hj).1
  show (decide (0 ≤ ((j : Nat) : Int)) && decide (((j : Nat) : Int) < (ps.length : Int))) = true
  rw [decide_eq_true (by omega), decide_eq_true (by omega)]; rfl
theorem ix_ps {s : Sto} {ps : Pairs} {j : Nat} {p : Str × Str} (hj : ps[j]? = some p) : idxF s (psD ps) (inD j) = some (segD p) := by
  have hjl := (List.getElem?_eq_some_iff.mp hj).1
  show atI (ps.map segD) (j : Int) = _
  rw [atI_in (by omega) (by rw [List.length_map]; omega), Int.toNat_natCast, List.getElem?_map, hj]; rfl
theorem SgOk.w {p : Str × Str} (h : SgOk p) : 1 ≤ p.2.length ∧ p.2.length ≤ 40 := by
  obtain ⟨_, h1, h2, h3⟩ := h
  rcases h3 with e | e
  · have : (sgnIn Tt.AZ p.2 && (decide (1 ≤ (p.2.length : Int)) && decide ((p.2.length : Int) ≤ 12))) = true := e
    simp only [Bool.and_eq_true, decide_eq_true_iff] at this
    omega
  · rw [e]; exact ⟨h1, h2⟩
section
variable (ds : List D) (s : Sto) (Q : D → Sto → Prop) (E : XD)
theorem pf_Sheet___init__ (h : sp_Sheet___init__ ds s Q E) : b_Sheet___init__ (endsOf Q) (envD ["self"] ds) s := by
  obtain ⟨s0, rfl, rfl, q⟩ := h
  refine ini (r := []) (Nat.zero_lt_succ _) ?_
  show (dSeq _ _) (endsOf Q) [some (.ref s0.length)] (s0 ++ some (.ins "Sheet" (fl1 (.ref (s0.length + 1)))) :: [some (.lst [])])
  refine iniD (r := [_]) (Nat.lt_of_lt_of_le (Nat.lt_succ_self 1) (by decide)) ?_
  rw [put1]
  refine ini (r := [_, _]) (Nat.lt_of_lt_of_le (Nat.lt_succ_self 2) (by decide)) ?_
  rw [put2]
  refine ini (r := [_, _, _]) (Nat.lt_of_lt_of_le (Nat.lt_succ_self 3) (by decide)) ?_
  rw [put3]
  refine ini (r := [_, _, _, _]) (Nat.lt_of_lt_of_le (Nat.lt_succ_self 4) (by decide)) ?_
  rw [put4]
  refine q _ ⟨s0.length + 5, [], ?_, ?_, ?_, ?_, ?_, Nat.le_refl _⟩ (by simp) (fun j hj => ?_)
  · exact mid_get
  all_goals first
    | (rw [List.getElem?_append_right (by omega)]; simp; done)
    | (rw [List.getElem?_append_right (by omega)]; simp [keysN]; done)
    | (rw [List.getElem?_append_left hj])
theorem pf_Sheet_cells (h : sp_Sheet_cells ds s Q E) : b_Sheet_cells (endsOf Q) (envD ["self"] ds) s := by
  obtain ⟨l, cs, n, rfl, ⟨k, ps, h0, h1, h2, h3, h4, h5⟩, q⟩ := h
  exact ⟨_, rfl, l, _, _, rfl, h0, rfl, _, list_rf h1, q⟩
theorem pf_cells_of (h : sp_cells_of ds s Q E) : b_cells_of (endsOf Q) (envD ["commit", "segment", "writing", "spot", "sign"] ds) s := by
  obtain ⟨k, j, w, rfl, hw, q⟩ := h
  have hpl : (placesD w).length = w.length := by simp [placesD]; rfl
  refine ⟨_, rfl, _, rfl, le_line (by rw [hpl]; omega), ?_⟩
  refine lcD_pure (fun _ => true) (fun d => match d with | .tup [.int i, c] => .tup [c, .tup [inD k, inD j, .int i]] | d => d) trivial (fun d hd k1 k0 g1 g0 => ?_) ?_
  · unfold placesD at hd
    obtain ⟨i, hi, rfl⟩ := List.mem_map.mp hd
    exact ⟨_, rfl, rfl, _, rfl, _, rfl, _, rfl, _, rfl, Dl.ll, Dl.ll, g1 rfl⟩
  rw [List.filter_eq_self.mpr (fun _ _ => rfl)]
  refine cast (congrArg (fun x => Q (.lst x) s) ?_) q
  unfold placesD cellsW
  rw [List.map_map, List.map_map]; rfl
theorem pf_Sheet_need_segment (h : sp_Sheet_need_segment ds s Q E) : b_Sheet_need_segment (fun y fs _ s' => E y fs s') (endsOf Q) (envD ["self", "commit", "segment"] ds) s := by
  obtain ⟨l, m, n, x, y, rfl, ⟨kk, past, h0, h1, h2, h3, h4, h5⟩, ⟨zx, zy⟩, hn, hy⟩ := h
  refine ⟨_, rfl, x, rfl, zx, _, rfl, ?_⟩
  cases e : isCnt x with
  | false =>
    refine ifT (hn ?_)
    cases x with
    | int i =>
      have : decide (0 ≤ i) = false := e
      show (decide (0 ≤ i) && _) = false
      rw [this]; rfl
    | _ => rfl
  | true =>
    obtain ⟨i, rfl⟩ : ∃ i, x = .int i := by cases x <;> first | exact ⟨_, rfl⟩ | cases e
    have e0 : 0 ≤ i := of_decide_eq_true e
    obtain ⟨k, rfl⟩ : ∃ k : Nat, i = (k : Nat) := ⟨i.toNat, by omega⟩
    by_cases hk : k < m.pairs.length
    · have hk' : m.pairs[k]? = some m.pairs[k] := List.getElem?_eq_getElem hk
      have hg := get_pairs hk'
      obtain ⟨g1, g2⟩ := hy k _ rfl hk'
      refine ifF ⟨_, rfl, _, rfl, l, _, _, rfl, h0, rfl, _, _, dictD_N h2, hg, _, rfl, ifF ?_⟩
      refine ⟨_, rfl, y, rfl, zy, _, rfl, ?_⟩
      cases e2 : isCnt y with
      | false =>
        refine ifT (g1 ?_)
        cases y with
        | int j =>
          have : decide (0 ≤ j) = false := e2
          show (decide (0 ≤ j) && _) = false
          rw [this]; rfl
        | _ => rfl
      | true =>
        obtain ⟨j, rfl⟩ : ∃ j, y = .int j := by cases y <;> first | exact ⟨_, rfl⟩ | cases e2
        have f0 : 0 ≤ j := of_decide_eq_true e2
        refine ifF ⟨_, rfl, _, rfl, l, _, _, rfl, h0, rfl, _, rfl, _, _, dictD_N h2, hg, _, rfl, _, rfl, _, rfl, ?_⟩
        refine ifD (fun hc => ?_) fun hc => ?_
        · have hc : (((m.pairs[k].map segD).length : Nat) : Int) ≤ j := hc
          rw [List.length_map] at hc
          refine g1 ?_
          show (decide (0 ≤ j) && decide (j < (m.pairs[k].length : Int))) = false
          rw [decide_eq_false (by omega : ¬ j < (m.pairs[k].length : Int))]; simp
        · have hc : ¬ (((m.pairs[k].map segD).length : Nat) : Int) ≤ j := hc
          rw [List.length_map] at hc
          refine g2 ?_
          show (decide (0 ≤ j) && decide (j < (m.pairs[k].length : Int))) = true
          rw [decide_eq_true f0, decide_eq_true (by omega : j < (m.pairs[k].length : Int))]; rfl
    · refine ifF ⟨_, rfl, _, rfl, l, _, _, rfl, h0, rfl, _, _, dictD_N h2, get_no (by omega), _, rfl, ifT (hn ?_)⟩
      show (decide (0 ≤ ((k : Nat) : Int)) && decide (((k : Nat) : Int) < (m.pairs.length : Int))) = false
      rw [decide_eq_false (by omega : ¬ ((k : Nat) : Int) < (m.pairs.length : Int))]; simp
theorem pf_Sheet_segment (h : sp_Sheet_segment ds s Q E) : b_Sheet_segment (endsOf Q) (envD ["self", "commit", "segment"] ds) s := by
  obtain ⟨l, m, n, k, j, ps, p, rfl, SH, hk, hj, k1, j1, q⟩ := h
  have SH' := SH
  obtain ⟨kk, past, h0, h1, h2, h3, h4, h5⟩ := SH'
  have hg := get_pairs hk
  refine ⟨_, rfl, l, _, rfl, h0, rfl, _, rfl, _, rfl, l, m, n, inD k, inD j, rfl, SH, ⟨sz_in k1, sz_in j1⟩, (fun e => by rw [hasB_in hk] at e; cases e), fun k' ps' e1 e2 => ?_⟩
  cases inD_inj e1
  rw [hk] at e2
  cases e2
  exact ⟨(fun e => by rw [sgB_in hj] at e; cases e), fun _ => ⟨_, rfl, l, _, _, rfl, h0, rfl, _, rfl, _, _, dictD_N h2, hg, _, rfl, _, ix_ps hj, q⟩⟩
end
end Sx
set_option Elab.async false
set_option linter.all false
set_option autoImplicit false
set_option maxRecDepth 100000
set_option maxHeartbeats 4000000
namespace Sx
open PySem PySem.Spec PyProof.Rows L2 Dl Bk
open Fb (Kp Kp.app Kp.set Kp.trans Kp.refl Kp.get)
open Fi (Is Is.up Is.lt Is.app Is.set sigs)
open Tt (segD stD stateF StOk ok_of sp_is_state)
open Fa (powOk10 ifD ifB ifT ifF two three strL strL_length strL_cps fapp txt_join_signs)
theorem allO_map {α : Type} [DecidableEq α] (f : α → D) (n : Nat) (h : ∀ x y, eqN n (f x) (f y) = some (decide (x = y))) : ∀ xs ys : List α, xs.length = ys.length → allO (eqN n) (xs.map f) (ys.map f) = some (decide (xs = ys))
  | [], [], _ => rfl
  | [], _ :: _, e => nomatch e
  | _ :: _, [], e => nomatch e
  | x :: xs, y :: ys, e => by
    show (match eqN n (f x) (f y), allO (eqN n) (xs.map f) (ys.map f) with | some a, some b => some (a && b) | _, _ => none) = _
    rw [h, allO_map f n h xs ys (Nat.succ.inj e)]
    show some (decide (x = y) && decide (xs = ys)) = some (decide (x :: xs = y :: ys))
    congr 1
    rw [Bool.eq_iff_iff]
    simp
theorem eq_or : ∀ (o o' : Option (Nat × Nat × Nat)) {n : Nat}, eqN (n + 2) (orD o) (orD o') = some (decide (o = o'))
  | none, none, _ => by simp [orD, eqN]
  | none, some (a, b, c), _ => by simp [orD, eqN]
  | some (a, b, c), none, _ => by simp [orD, eqN]
  | some (a, b, c), some (a', b', c'), n => by
    show some (((((a : Int) == (a' : Int)) && (((b : Int) == (b' : Int)) && (((c : Int) == (c' : Int)) && true)))) && decide (3 = 3)) = _
    congr 1
    rw [Bool.eq_iff_iff]
    simp
    omega
theorem eq_ceD (c c' : Cell) {n : Nat} : eqN (n + 3) (ceD c) (ceD c') = some (decide (c = c')) := by
  obtain ⟨a, o⟩ := c
  obtain ⟨a', o'⟩ := c'
  have e1 : eqN (n + 2) (sgD a) (sgD a') = some (decide (a = a')) := by
    show some ((⟨#[a]⟩ : Str) == ⟨#[a']⟩) = _
    congr 1
    rw [Bool.eq_iff_iff, beq_iff_eq, decide_eq_true_iff]
    constructor
    · intro h
      have := congrArg (fun z : Str => z.cps.toList) h
      simpa using this
    · rintro rfl; rfl
  have e2 := eq_or o o' (n := n)
  show (match allO (eqN (n + 2)) [sgD a, orD o] [sgD a', orD o'] with | some b => some (b && decide (2 = 2)) | none => none) = _
  have e3 : allO (eqN (n + 2)) [sgD a, orD o] [sgD a', orD o'] = some (decide (a = a') && (decide (o = o') && true)) := by simp only [allO, e1, e2]
  rw [e3]
  show some _ = some _
  congr 1
  rw [Bool.eq_iff_iff]
  simp
theorem eq_cellsD {a b : List Cell} {n : Nat} : eqN (n + 4) (.lst (a.map ceD)) (.lst (b.map ceD)) = some (decide (a = b)) := by
  show (if (a.map ceD).length = (b.map ceD).length then allO (eqN (n + 3)) (a.map ceD) (b.map ceD) else some false) = _
  rw [List.length_map, List.length_map]
  by_cases h : a.length = b.length
  · rw [if_pos h, allO_map ceD (n + 3) (fun x y => eq_ceD x y) a b h]
  · rw [if_neg h, decide_eq_false (fun e => h (by rw [e]))]
theorem neF_cells {a b : List Cell} {s : Sto} : neF s (.lst (a.map ceD)) (.lst (b.map ceD)) = some (.bl (!decide (a = b))) := by
  unfold neF
  rw [Dl.drf_lst, Dl.drf_lst, eq_cellsD (n := 56)]; rfl
def fstD : D → D
  | .tup [x, _] => x
  | d => d
theorem getD_map {α : Type} (f : α → D) {as : List α} {i : Nat} (h : i < as.length) : (as.map f).getD i .non = f as[i] := by
  rw [List.getD_eq_getElem?_getD, List.getElem?_map, List.getElem?_eq_getElem h]; rfl
theorem enum_gen {α : Type} {k j : Nat} (f : α → D) (g : α → Option (Nat × Nat × Nat)) (P : D → Bool) (h : ∀ (i : Nat) a, P (.tup [.int (i : Nat), f a]) = isSeg k j (g a)) (as : List α) : ((enumD (as.map f)).filter P).map fstD = (spots k j (as.map g)).map inD := by
  unfold enumD spots
  rw [List.filter_map, List.map_map, List.length_map, List.length_map]
  have e : (List.range as.length).filter (P ∘ fun i => D.tup [.int (i : Nat), (as.map f).getD i .non]) = (List.range as.length).filter (fun i => isSeg k j ((as.map g).getD i none)) := List.filter_congr fun i hi => by
    have hi := List.mem_range.mp hi
    show P (.tup [.int (i : Nat), (as.map f).getD i .non]) = _
    rw [getD_map f hi, h i, List.getD_eq_getElem?_getD, List.getElem?_map, List.getElem?_eq_getElem hi]; rfl
  rw [e]
  rfl
def segP (k j : Nat) : D → Bool
  | .tup [.int a, .int b, _] => a == (k : Int) && b == (j : Int)
  | _ => false
theorem segP_or {k j : Nat} : ∀ o, segP k j (orD o) = isSeg k j o
  | none => rfl
  | some (a, b, c) => by
    show ((a : Int) == (k : Int) && (b : Int) == (j : Int)) = (a == k && b == j)
    rw [Bool.eq_iff_iff]
    simp
    omega
theorem eq_two {s : Sto} {a b k j : Nat} : eqF s (.tup [.int (a : Nat), .int (b : Nat)]) (.tup [inD k, inD j]) = some (.bl ((a : Int) == (k : Int) && (b : Int) == (j : Int))) := by
  show some (D.bl ((((a : Int) == (k : Int)) && (((b : Int) == (j : Int)) && true)) && decide (2 = 2))) = _
  rw [show decide (2 = 2) = true from rfl, Bool.and_true, Bool.and_true]
theorem slice_two {s : Sto} {a b c : D} : sliceF s (.tup [a, b, c]) none (some 2) = some (.tup [a, b]) := rfl
theorem slice_mid {s : Sto} {cs : List Cell} {i n : Nat} : sliceF s (.lst (cs.map ceD)) (some (i : Nat)) (some ((i : Nat) + (n : Nat) : Int)) = some (.lst (((cs.drop i).take n).map ceD)) := by
  show some (D.lst (Dl.cutD (cs.map ceD) (some (i : Nat)) (some ((i : Nat) + (n : Nat) : Int)))) = _
  rw [cutD_mid (by omega) (by omega), Int.toNat_natCast, show ((i : Nat) + (n : Nat) : Int).toNat = i + n by omega, List.drop_take, Nat.add_sub_cancel_left, List.map_take, List.map_drop]
theorem where_nil {cs : List Cell} {k j : Nat} {w : Str} (h : spots k j (cs.map (·.2)) = []) : whereC cs k j w = none := by unfold whereC; rw [h]
theorem where_cons {cs : List Cell} {k j i : Nat} {r : List Nat} {w : Str} (h : spots k j (cs.map (·.2)) = i :: r) : whereC cs k j w = if (i :: r).length = w.length ∧ (cs.drop i).take w.length = cellsW k j w then some i else none := by unfold whereC; rw [h]
theorem cellsW_len (k j : Nat) (w : Str) : (cellsW k j w).length = w.length := by
  unfold cellsW
  rw [List.length_map, List.length_range]; rfl
theorem slice_midR {s : Sto} {l : Nat} {cs : List Cell} {i n : Nat} (h : s[l]? = some (some (.lst (cs.map ceD)))) : sliceF s (.ref l) (some (i : Nat)) (some ((i : Nat) + (n : Nat) : Int)) = some (.lst (((cs.drop i).take n).map ceD)) := by
  have := slice_mid (s := s) (cs := cs) (i := i) (n := n)
  show (seqL s (.ref l)).map (fun xs => D.lst (Dl.cutD xs (some (i : Nat)) (some ((i : Nat) + (n : Nat) : Int)))) = _
  rw [seqL_ref h]
  exact this
theorem where_ne {cs : List Cell} {k j : Nat} {w : Str} (h : (spots k j (cs.map (·.2))).length ≠ w.length) : whereC cs k j w = none := by
  cases e : spots k j (cs.map (·.2)) with
  | nil => exact where_nil e
  | cons i r =>
    rw [where_cons e, if_neg (fun c => h (by rw [e]; exact c.1))]
theorem spots_cons {k j : Nat} {os : List (Option (Nat × Nat × Nat))} {w : Str} (h1 : 1 ≤ w.length) (h : (spots k j os).length = w.length) : ∃ i r, spots k j os = i :: r := by
  cases e : spots k j os with
  | nil => rw [e] at h; have : 0 = w.length := h; omega
  | cons i r => exact ⟨i, r, rfl⟩
theorem beqL (a b : Nat) : (((a : Nat) : Int) == ((b : Nat) : Int)) = decide (a = b) := by
  rw [Bool.eq_iff_iff]
  simp
  omega
section
variable (ds : List D) (s : Sto) (Q : D → Sto → Prop) (E : XD)
theorem ix_spot {s : Sto} {i : Nat} {r : List Nat} : idxF s (.lst ((i :: r).map inD)) (.int 0) = some (inD i) := by
  show atI ((i :: r).map inD) 0 = _
  rw [atI_in (Int.le_refl _) (by simp)]; rfl
theorem pf_Sheet_where (h : sp_Sheet_where ds s Q E) : b_Sheet_where (endsOf Q) (envD ["self", "commit", "segment", "reading", "writing", "due", "origins", "spots", "sign", "origin", "at"] ds) s := by
  obtain ⟨l, m, n, k, j, ps, p, rfl, SH, hc, hk, hj, k1, j1, ⟨w1, w2⟩, q⟩ := h
  have SH' := SH
  obtain ⟨kk, past, h0, h1, h2, h3, h4, h5⟩ := SH'
  have hen : ∀ ds : List D, (enumD ds).length = ds.length := fun ds => by simp [enumD]
  refine ⟨_, rfl, l, _, rfl, h0, rfl, _, rfl, _, rfl, l, m, n, k, j, ps, p, rfl, SH, hk, hj, k1, j1, _, rfl, rfl, ?_⟩
  refine ⟨_, rfl, _, rfl, _, rfl, k, j, p.2, rfl, by omega, ?_⟩
  refine ⟨_, rfl, l, _, _, rfl, h0, rfl, _, _, isW_ref h1, le_line (by rw [List.length_map]; omega), ?_⟩
  refine lcD_pure (fun _ => true) (fun d => match d with | .tup [_, b] => b | d => d) h1 (fun d hd k1 k0 g1 g0 => ?_) ?_
  · obtain ⟨c, hc, rfl⟩ := List.mem_map.mp hd
    exact ⟨_, rfl, rfl, _, rfl, g1 rfl⟩
  rw [List.filter_eq_self.mpr (fun _ _ => rfl), show (m.cells.map ceD).map (fun d => match d with | .tup [_, b] => b | d => d) = (m.cells.map (·.2)).map orD by rw [List.map_map, List.map_map]; rfl]
  refine ⟨_, rfl, _, rfl, le_line (by rw [hen, List.length_map, List.length_map]; omega), ?_⟩
  refine lcD_pure (fun d => match d with | .tup [_, x] => segP k j x | _ => false) fstD trivial (fun d hd k1 k0 g1 g0 => ?_) ?_
  · unfold enumD at hd
    obtain ⟨i, hi, rfl⟩ := List.mem_map.mp hd
    have hi := List.mem_range.mp hi
    rw [List.length_map] at hi
    rw [getD_map orD hi] at g1 g0 ⊢
    generalize (m.cells.map (·.2))[i] = o at g1 g0 ⊢
    refine ⟨_, rfl, rfl, ?_⟩
    cases o with
    | none => exact ⟨_, rfl, _, rfl, _, rfl, ifF (ifF (g0 rfl))⟩
    | some o =>
      obtain ⟨a, b, c⟩ := o
      refine ⟨_, rfl, _, rfl, _, rfl, ifT ⟨_, rfl, _, rfl, _, slice_two, _, rfl, _, rfl, Dl.ll, _, eq_two, _, rfl, ?_⟩⟩
      exact ifB (fun hb => ⟨_, rfl, g1 hb⟩) (fun hb => g0 hb)
  rw [enum_gen orD id (k := k) (j := j) _ (fun i a => segP_or a), List.map_id]
  refine ⟨_, rfl, _, rfl, _, rfl, _, rfl, _, ne_ii, _, rfl, ?_⟩
  have hlen : ((cellsW k j p.2).map ceD).length = p.2.length := by rw [List.length_map, cellsW_len]
  rw [List.length_map, hlen, beqL]
  by_cases hl : (spots k j (m.cells.map (·.2))).length = p.2.length
  · obtain ⟨i, r, e⟩ := spots_cons (w := p.2) w1 hl
    rw [decide_eq_true hl]
    rw [where_cons e] at q
    rw [e] at hl ⊢
    refine ifF ⟨_, rfl, l, _, _, rfl, h0, rfl, _, rfl, _, ix_spot, _, rfl, _, rfl, _, ix_spot, _, rfl, _, rfl, _, rfl, _, rfl, _, slice_midR h1, _, rfl, _, neF_cells, _, rfl, ?_⟩
    rw [hlen]
    by_cases he : (m.cells.drop i).take p.2.length = cellsW k j p.2
    · rw [decide_eq_true he]
      rw [if_pos ⟨hl, he⟩] at q
      refine ifF ?_
      dsimp only [dNext]
      exact ⟨_, rfl, _, ix_spot, q⟩
    · rw [decide_eq_false he]
      rw [if_neg (fun e => he e.2)] at q
      exact ifT q
  · rw [where_ne hl] at q
    rw [decide_eq_false hl]
    exact ifT (ifT q)
end
end Sx
set_option Elab.async false
set_option linter.all false
set_option autoImplicit false
set_option maxRecDepth 100000
set_option maxHeartbeats 4000000
namespace Sx
open PySem PySem.Spec PyProof.Rows L2 Dl Bk
open Fb (Kp Kp.app Kp.set Kp.trans Kp.refl Kp.get)
open Fi (Is Is.up Is.lt Is.app Is.set sigs)
open Tt (segD stD stateF StOk ok_of sp_is_state)
open Fa (powOk10 ifD ifB ifT ifF two three strL strL_length strL_cps fapp txt_join_signs)
theorem sl_to {ps : Pairs} {j : Nat} {s : Sto} : sliceF s (psD ps) none (some (j : Nat)) = some (.tup ((ps.take j).map segD)) := by
  show some (D.tup (Dl.cutD (ps.map segD) none (some (j : Nat)))) = _
  rw [cutD_to (by omega), Int.toNat_natCast, List.map_take]
theorem sl_from {ps : Pairs} {j : Nat} {s : Sto} : sliceF s (psD ps) (some ((j : Nat) + 1 : Int)) none = some (.tup ((ps.drop (j + 1)).map segD)) := by
  show some (D.tup (Dl.cutD (ps.map segD) (some ((j : Nat) + 1 : Int)) none)) = _
  rw [cutD_from (by omega), show ((j : Nat) + 1 : Int).toNat = j + 1 by omega, List.map_drop]
end Sx
set_option Elab.async false
set_option linter.all false
set_option autoImplicit false
set_option maxRecDepth 100000
set_option maxHeartbeats 4000000
namespace Sx
open PySem PySem.Spec PyProof.Rows L2 Dl Bk
open Fb (Kp Kp.app Kp.set Kp.trans Kp.refl Kp.get)
open Fi (Is Is.up Is.lt Is.app Is.set sigs)
open Tt (segD stD stateF StOk ok_of sp_is_state)
open Fa (powOk10 ifD ifB ifT ifF two three strL strL_length strL_cps fapp txt_join_signs)
theorem ixm {xs : List D} {i : Int} (a : 0 ≤ i) (b : i < xs.length) : ∃ y, (∀ s, idxF s (.lst xs) (.int i) = some y) ∧ y ∈ xs := by
  refine ⟨xs[i.toNat]'(by omega), fun s => ?_, List.getElem_mem _⟩
  show atI xs i = _
  rw [atI_in a b, List.getElem?_eq_getElem]
end Sx
set_option Elab.async false
set_option linter.all false
set_option autoImplicit false
set_option maxRecDepth 100000
set_option maxHeartbeats 4000000
namespace Sx
open PySem PySem.Spec PyProof.Rows L2 Dl Bk
open Fb (Kp Kp.app Kp.set Kp.trans Kp.refl Kp.get)
open Fi (Is Is.up Is.lt Is.app Is.set sigs)
open Tt (segD stD stateF StOk ok_of sp_is_state)
open Fa (powOk10 ifD ifB ifT ifF two three strL strL_length strL_cps fapp txt_join_signs)
def enF : Nat → List D → List D
  | _, [] => []
  | j, d :: r => .tup [.int (j : Nat), d] :: enF (j + 1) r
theorem enumD_from : ∀ (ds : List D) (j : Nat), ((List.range ds.length).map fun i => D.tup [.int ((j + i : Nat) : Int), ds.getD i .non]) = enF j ds
  | [], _ => rfl
  | d :: r, j => by
    rw [List.length_cons, List.range_succ_eq_map, List.map_cons, List.map_map]
    show _ :: _ = D.tup [.int (j : Nat), d] :: enF (j + 1) r
    rw [← enumD_from r (j + 1)]
    congr 1
    refine List.map_congr_left fun i _ => ?_
    show D.tup [.int ((j + (i + 1) : Nat) : Int), (d :: r).getD (i + 1) .non] = _
    rw [show j + (i + 1) = j + 1 + i by omega]; rfl
theorem enumD_eF (ds : List D) : enumD ds = enF 0 ds := by
  rw [← enumD_from ds 0]
  unfold enumD
  refine List.map_congr_left fun i _ => ?_
  rw [Nat.zero_add]
end Sx
set_option Elab.async false
set_option linter.all false
set_option autoImplicit false
set_option maxRecDepth 100000
set_option maxHeartbeats 4000000
namespace Sx
open PySem PySem.Spec PyProof.Rows L2 Dl Bk
open Fb (Kp Kp.app Kp.set Kp.trans Kp.refl Kp.get)
open Fi (Is Is.up Is.lt Is.app Is.set sigs)
open Tt (segD stD stateF StOk ok_of sp_is_state)
open Fa (powOk10 ifD ifB ifT ifF two three strL strL_length strL_cps fapp txt_join_signs)
end Sx
set_option Elab.async false
set_option linter.all false
set_option autoImplicit false
set_option maxRecDepth 100000
set_option maxHeartbeats 4000000
namespace Sx
open PySem PySem.Spec PyProof.Rows L2 Dl Bk
open Fb (Kp Kp.app Kp.set Kp.trans Kp.refl Kp.get)
open Fi (Is Is.up Is.lt Is.app Is.set sigs)
open Tt (segD stD stateF StOk ok_of sp_is_state)
open Fa (powOk10 ifD ifB ifT ifF two three strL strL_length strL_cps fapp txt_join_signs)
theorem Sh_kr {l n a b : Nat} {m : Sh} {s s' : Sto} (h : ShAt l m n s) (K : Kr a b s s') (hl : l + 4 < a ∨ b < l) : ShAt l m n s' := by
  obtain ⟨k, ps, h0, h1, h2, h3, h4, h5⟩ := h
  exact ⟨k, ps, K.get h0 (by omega), K.get h1 (by omega), K.get h2 (by omega), K.get h3 (by omega), K.get h4 (by omega), h5⟩
theorem He_kr {h a b : Nat} {m : Sh} {s s' : Sto} (H : HeAt h m s) (K : Kr a b s s') (hl : b < h) : HeAt h m s' := by
  obtain ⟨rs, r1, r2, r3, r4, r5, r6, r7⟩ := H
  refine ⟨rs, r1, r2, r3, K.get r4 (by omega), K.get r5 (by omega), K.get r6 (by omega), fun k r ps a b => ?_⟩
  have := r3 r (List.mem_of_getElem? a)
  exact K.get (r7 k r ps a b) (by omega)
theorem Is_kr {c : Int} {p a b : Nat} {s s' : Sto} (h : Is c p s) (K : Kr a b s s') (hp : p < a ∨ b < p) : Is c p s' := by
  obtain ⟨ns, i, r, t, h1, h2⟩ := h
  exact ⟨ns, i, r, t, K.get h1 hp, h2⟩
theorem kr_kp {p : Nat} {s s' : Sto} (K : Kp p s s') : Kr p p s s' := ⟨K.len, fun j hj hc => K.at_ j hj (by omega)⟩
theorem Sh_up {l n n' : Nat} {m : Sh} {s : Sto} (h : ShAt l m n s) (hn : n ≤ n') : ShAt l m n' s := by
  obtain ⟨k, ps, h0, h1, h2, h3, h4, h5⟩ := h
  exact ⟨k, ps, h0, h1, h2, h3, h4, by omega⟩
theorem lo_kr {h : Nat} {s s' : Sto} (L : Lo h s s') : ∀ j {o : Option MO}, s[j]? = some o → j < h → s'[j]? = some o := fun j o g hj => (L.at_ j hj).trans g
theorem Sh_lo {l n h : Nat} {m : Sh} {s s' : Sto} (H : ShAt l m n s) (L : Lo h s s') (hl : l + 4 < h) : ShAt l m n s' := by
  obtain ⟨k, ps, h0, h1, h2, h3, h4, h5⟩ := H
  exact ⟨k, ps, lo_kr L _ h0 (by omega), lo_kr L _ h1 (by omega), lo_kr L _ h2 (by omega), lo_kr L _ h3 (by omega), lo_kr L _ h4 (by omega), h5⟩
theorem Is_lo {c : Int} {p h : Nat} {s s' : Sto} (H : Is c p s) (L : Lo h s s') (hp : p < h) : Is c p s' := by
  obtain ⟨ns, i, r, t, h1, h2⟩ := H
  exact ⟨ns, i, r, t, lo_kr L _ h1 hp, h2⟩
theorem Wd.kp {c c' : Int} {p l h n : Nat} {m : Sh} {s s' : Sto} (W : Wd c p l h m n s) (K : Kp p s s') (S : Is c' p s') : Wd c' p l h m n s' :=
  ⟨S, Sh_kr W.SH (kr_kp K) (.inr W.pl), He_kr W.H (kr_kp K) (by have := W.pl; have := W.lh; omega), W.pl, W.lh, W.ok⟩
theorem Wd.up {c c' : Int} {p l h n n' : Nat} {m : Sh} {s : Sto} (W : Wd c p l h m n s) (hc : c ≤ c') (hn : n ≤ n') : Wd c' p l h m n' s := ⟨W.S.up hc, Sh_up W.SH hn, W.H, W.pl, W.lh, W.ok⟩
theorem Wd.to {c : Int} {p l h n n' : Nat} {m m' : Sh} {s s1 s2 : Sto} (W : Wd c p l h m n s) (SH1 : ShAt l m' n' s1) (K1 : Kr l (l + 4) s s1) (H2 : HeAt h m' s2) (L2 : Lo h s1 s2) (ok : ShOk m') : Wd c p l h m' n' s2 :=
  ⟨Is_lo (Is_kr W.S K1 (.inl W.pl)) L2 (by have := W.pl; have := W.lh; omega), Sh_lo SH1 L2 W.lh, H2, W.pl, W.lh, ok⟩
end Sx
set_option Elab.async false
set_option linter.all false
set_option autoImplicit false
set_option maxRecDepth 100000
set_option maxHeartbeats 4000000
namespace Sx
open PySem PySem.Spec PyProof.Rows L2 Dl Bk
open Fb (Kp Kp.app Kp.set Kp.trans Kp.refl Kp.get)
open Fi (Is Is.up Is.lt Is.app Is.set sigs)
open Tt (segD stD stateF StOk ok_of sp_is_state)
open Fa (powOk10 ifD ifB ifT ifF two three strL strL_length strL_cps fapp txt_join_signs)
end Sx
set_option Elab.async false
set_option linter.all false
set_option autoImplicit false
set_option maxRecDepth 100000
set_option maxHeartbeats 4000000
namespace Dl
open PySem PySem.Spec PyProof.Rows L2
end Dl
set_option Elab.async false
set_option linter.all false
set_option autoImplicit false
set_option maxRecDepth 100000
set_option maxHeartbeats 4000000
namespace Su
open PySem PySem.Spec PyProof.Rows L2 Dl Bk
open Fb (Kp)
open Fa (strL)
open Fi (Is sigs)
open Tt (segD stateF StOk)
open Sx (Cell sgD ceD Pairs psD inD cellsW cellsF putC allSegs whereC opD SgOk plOk mnOk inI sgB wrB Lo)
/-- cells, the pairs of each commit by its number, the commits that stand -/
structure Sm where
  cells : List Cell
  pr : Nat → Pairs
  up : List Nat
def Sm.rep (m : Sm) (i g : Int) (new : List Cell) : Sm := ⟨m.cells.take i.toNat ++ new ++ m.cells.drop (i + g).toNat, m.pr, m.up⟩
def Sm.commit (m : Sm) (i g : Int) (k : Nat) (ps : Pairs) : Sm := ⟨(m.rep i g (cellsF k 0 ps)).cells, fun x => if x = k then ps else m.pr x, m.up ++ [k]⟩
def Sm.mend (m : Sm) (k j i : Nat) (p : Str × Str) (w : Str) : Sm := ⟨(m.rep i (p.2.length : Nat) (cellsW k j w)).cells, fun x => if x = k then (m.pr k).set j (p.1, w) else m.pr x, m.up⟩
/-- a step as it is kept: what was seen, how many commits then, its place, how many went, how many came -/
structure Ent where
  m : Sm
  n : Nat
  at_ : Int
  went : Int
  came : Int
def prsD (m : Sm) (n : Nat) : List D := (List.range n).map fun k => psD (m.pr k)
def seenD (m : Sm) (n : Nat) : D := .tup [.lst (m.cells.map ceD), .dk (keysN (prsD m n).length) (prsD m n), .lst (m.up.map inD)]
def entD (e : Ent) : D := .tup [seenD e.m e.n, .int e.at_, .int e.went, .int e.came]
/-- where the lists stand that a step may put elsewhere -/
structure Fp where
  a : Nat
  u : Nat
  q : Nat
abbrev shF (l : Nat) (f : Fp) : List (Str × D) := [("cell_row", .ref f.a), ("pair_rows", .ref (l + 2)), ("upright", .ref f.u), ("past", .ref (l + 4)), ("later", .ref f.q)]
structure FpOk (l : Nat) (f : Fp) : Prop where
  au : f.a ≠ f.u
  aq : f.a ≠ f.q
  uq : f.u ≠ f.q
  a2 : f.a ≠ l + 2 ∧ f.a ≠ l + 4 ∧ l < f.a
  u2 : f.u ≠ l + 2 ∧ f.u ≠ l + 4 ∧ l < f.u
  q2 : f.q ≠ l + 2 ∧ f.q ≠ l + 4 ∧ l < f.q
/-- the sheet m stands at l, with so many commits, these steps behind it and ahead of it -/
structure ShU (l : Nat) (m : Sm) (n : Nat) (past later : List Ent) (f : Fp) (s : Sto) : Prop where
  o : s[l]? = some (some (.ins "Sheet" (shF l f)))
  c : s[f.a]? = some (some (.lst (m.cells.map ceD)))
  p : s[l + 2]? = some (some (.dk (keysN (prsD m n).length) (prsD m n)))
  u : s[f.u]? = some (some (.lst (m.up.map inD)))
  b : s[l + 4]? = some (some (.lst (past.map entD)))
  g : s[f.q]? = some (some (.lst (later.map entD)))
  ok : FpOk l f
/-- a place of the sheet's own -/
def Own (l : Nat) (f : Fp) (j : Nat) : Prop := j = l ∨ j = l + 2 ∨ j = l + 4 ∨ j = f.a ∨ j = f.u ∨ j = f.q
/-- what is not the sheet's own stays; what it takes up anew is new -/
structure FrU (l : Nat) (f f' : Fp) (s s' : Sto) : Prop where
  len : s.length ≤ s'.length
  at_ : ∀ j, j < s.length → ¬ Own l f j → s'[j]? = s[j]?
  na : f'.a = f.a ∨ s.length ≤ f'.a
  nu : f'.u = f.u ∨ s.length ≤ f'.u
  nq : f'.q = f.q ∨ s.length ≤ f'.q
/-- what all sheets keep -/
structure SmOk (m : Sm) (n : Nat) : Prop where
  up : ∀ (a b k : Nat), m.up[a]? = some k → m.up[b]? = some k → a = b
  lt : ∀ k ∈ m.up, k < n
  ps : ∀ k, k < n → 1 ≤ (m.pr k).length ∧ (m.pr k).length ≤ 45 ∧ ∀ p ∈ m.pr k, SgOk p
/-- bounds -/
structure Bd (m : Sm) (n : Nat) (past later : List Ent) : Prop where
  c : m.cells.length ≤ 50000
  n : n ≤ 1000
  u : m.up.length ≤ 1000
  b : past.length ≤ 1000
  g : later.length ≤ 1000
def sp_Sheet___init__ : SpD := fun ds s Q _ => ∃ s0 : Sto, ds = [.ref s0.length] ∧ s = s0 ++ [some (.ins "Sheet" [])] ∧ ∀ s', ShU s0.length ⟨[], fun _ => [], []⟩ 0 [] [] ⟨s0.length + 1, s0.length + 3, s0.length + 5⟩ s' → s'.length = s0.length + 6 → (∀ j, j < s0.length → s'[j]? = s0[j]?) → Q .non s'
theorem mono_Sheet___init__ : MonoSp sp_Sheet___init__ := fun _ _ _ _ _ _ f _ ⟨a, h1, h2, h⟩ => ⟨a, h1, h2, fun s' a1 a2 a3 => f _ _ (h s' a1 a2 a3)⟩
theorem len_Sheet___init__ : ∀ ds s Q E, sp_Sheet___init__ ds s Q E → ds.length = ["self"].length := fun _ _ _ _ ⟨_, h, _⟩ => by rw [h]; rfl
def sp_Sheet_cells : SpD := fun ds s Q _ => ∃ (l : Nat) (m : Sm) (n : Nat) (b g : List Ent) (f : Fp), ds = [.ref l] ∧ ShU l m n b g f s ∧ Q (.lst (m.cells.map ceD)) s
theorem mono_Sheet_cells : MonoSp sp_Sheet_cells := fun _ _ _ _ _ _ f _ ⟨a, b, c, d, e, k, h1, h2, h⟩ => ⟨a, b, c, d, e, k, h1, h2, f _ _ h⟩
theorem len_Sheet_cells : ∀ ds s Q E, sp_Sheet_cells ds s Q E → ds.length = ["self"].length := fun _ _ _ _ ⟨_, _, _, _, _, _, h, _⟩ => by rw [h]; rfl
def sp_Sheet_steps : SpD := fun ds s Q _ => ∃ (l : Nat) (m : Sm) (n : Nat) (b g : List Ent) (f : Fp), ds = [.ref l] ∧ ShU l m n b g f s ∧ Q (.tup [inD b.length, inD g.length]) s
theorem mono_Sheet_steps : MonoSp sp_Sheet_steps := fun _ _ _ _ _ _ f _ ⟨a, b, c, d, e, k, h1, h2, h⟩ => ⟨a, b, c, d, e, k, h1, h2, f _ _ h⟩
theorem len_Sheet_steps : ∀ ds s Q E, sp_Sheet_steps ds s Q E → ds.length = ["self"].length := fun _ _ _ _ ⟨_, _, _, _, _, _, h, _⟩ => by rw [h]; rfl
end Su
set_option Elab.async false
set_option linter.all false
set_option autoImplicit false
set_option maxRecDepth 100000
set_option maxHeartbeats 4000000
namespace Dl
open PySem PySem.Spec PyProof.Rows L2
end Dl
set_option Elab.async false
set_option linter.all false
set_option autoImplicit false
set_option maxRecDepth 100000
set_option maxHeartbeats 4000000
namespace Su
open PySem PySem.Spec PyProof.Rows L2 Dl Bk
open Fb (Kp)
open Fi (Is)
open Tt (sp_is_segment sp_is_state segD stateF StOk)
def b_Sheet___init__ : SD := (dSeq (dSetF "Sheet" "cell_row" (dVar 0) (dNew dNil))
  (dSeq (dSetF "Sheet" "pair_rows" (dVar 0) dDNewK)
  (dSeq (dSetF "Sheet" "upright" (dVar 0) (dNew dNil))
  (dSeq (dSetF "Sheet" "past" (dVar 0) (dNew dNil))
  (dSetF "Sheet" "later" (dVar 0) (dNew dNil))))))
def b_Sheet_cells : SD := (dRet (dCB listF (dCons (dFld "Sheet" "cell_row" (dVar 0)) dNil)))
def b_Sheet_steps : SD := (dRet (dTup (dCons (dCB lenF (dCons (dFld "Sheet" "past" (dVar 0)) dNil)) (dCons (dCB lenF (dCons (dFld "Sheet" "later" (dVar 0)) dNil)) dNil))))
end Su
set_option Elab.async false
set_option linter.all false
set_option autoImplicit false
set_option maxRecDepth 100000
set_option maxHeartbeats 4000000
namespace Su
open PySem PySem.Spec PyProof.Rows L2 Dl Bk
open Fb (Kp Kp.app Kp.set Kp.trans Kp.refl Kp.get)
open Fi (Is Is.up Is.lt Is.app Is.set sigs)
open Tt (segD stD stateF StOk ok_of sp_is_state)
open Fa (powOk10 ifD ifB ifT ifF two three strL strL_length strL_cps fapp txt_join_signs)
open Sx (Cell sgD ceD Pairs psD inD cellsW cellsF putC allSegs whereC opD SgOk plOk mnOk inI sgB wrB Lo mid_get mid_set ini iniD fl1 fl2 fl3 fl4 fl5 put1 put2 put3 put4 len_rf list_rf inD_inj sz_in ix_ps)
theorem prs_len {m : Sm} {n : Nat} : (prsD m n).length = n := by simp [prsD]
theorem FrU.refl {l : Nat} {f : Fp} {s : Sto} : FrU l f f s s := ⟨Nat.le_refl _, fun _ _ _ => rfl, .inl rfl, .inl rfl, .inl rfl⟩
theorem FrU.trans {l : Nat} {f f1 f2 : Fp} {s s1 s2 : Sto} (h : FrU l f f1 s s1) (g : FrU l f1 f2 s1 s2) : FrU l f f2 s s2 := by
  obtain ⟨a1, a2, a3, a4, a5⟩ := h
  obtain ⟨b1, b2, b3, b4, b5⟩ := g
  refine ⟨Nat.le_trans a1 b1, fun j hj hn => ?_, ?_, ?_, ?_⟩
  · rw [b2 j (by omega) (fun ho => hn ?_), a2 j hj hn]
    unfold Own at ho ⊢
    omega
  · omega
  · omega
  · omega
theorem eq_l0R {s : Sto} {l : Nat} {xs : List D} (h : s[l]? = some (some (.lst xs))) : eqF s (.ref l) (.lst []) = some (.bl (decide (xs = []))) := by
  unfold eqF
  rw [drf_ref h, drf_lst]
  have := eq_l0 (s := s) (xs := xs)
  unfold eqF at this
  rw [drf_lst, drf_lst] at this
  exact this
section
variable (ds : List D) (s : Sto) (Q : D → Sto → Prop) (E : XD)
theorem pf_Sheet___init__ (h : sp_Sheet___init__ ds s Q E) : b_Sheet___init__ (endsOf Q) (envD ["self"] ds) s := by
  obtain ⟨s0, rfl, rfl, q⟩ := h
  refine ini (r := []) (Nat.zero_lt_succ _) ?_
  show (dSeq _ _) (endsOf Q) [some (.ref s0.length)] (s0 ++ some (.ins "Sheet" (fl1 (.ref (s0.length + 1)))) :: [some (.lst [])])
  refine iniD (r := [_]) (Nat.lt_of_lt_of_le (Nat.lt_succ_self 1) (by decide)) ?_
  rw [put1]
  refine ini (r := [_, _]) (Nat.lt_of_lt_of_le (Nat.lt_succ_self 2) (by decide)) ?_
  rw [put2]
  refine ini (r := [_, _, _]) (Nat.lt_of_lt_of_le (Nat.lt_succ_self 3) (by decide)) ?_
  rw [put3]
  refine ini (r := [_, _, _, _]) (Nat.lt_of_lt_of_le (Nat.lt_succ_self 4) (by decide)) ?_
  rw [put4]
  refine q _ ⟨?_, ?_, ?_, ?_, ?_, ?_, ⟨by simp, by simp, by simp, by simp, by simp, by simp⟩⟩ (by simp) (fun j hj => ?_)
  · exact mid_get
  all_goals first
    | (rw [List.getElem?_append_right (by simp)]; simp; done)
    | (rw [List.getElem?_append_right (by simp)]; simp [keysN, prsD]; done)
    | (rw [List.getElem?_append_left hj])
theorem pf_Sheet_cells (h : sp_Sheet_cells ds s Q E) : b_Sheet_cells (endsOf Q) (envD ["self"] ds) s := by
  obtain ⟨l, m, n, b, g, f, rfl, ⟨h0, h1, h2, h3, h4, h5, hok⟩, q⟩ := h
  exact ⟨_, rfl, l, _, _, rfl, h0, rfl, _, list_rf h1, q⟩
theorem pf_Sheet_steps (h : sp_Sheet_steps ds s Q E) : b_Sheet_steps (endsOf Q) (envD ["self"] ds) s := by
  obtain ⟨l, m, n, b, g, f, rfl, ⟨h0, h1, h2, h3, h4, h5, hok⟩, q⟩ := h
  refine ⟨_, rfl, l, _, _, rfl, h0, rfl, _, len_rf h4, _, rfl, l, _, _, rfl, h0, rfl, _, len_rf h5, Dl.ll, ?_⟩
  rw [List.length_map, List.length_map]
  exact q
end
end Su
set_option Elab.async false
set_option linter.all false
set_option autoImplicit false
set_option maxRecDepth 100000
set_option maxHeartbeats 4000000
namespace Su
open PySem PySem.Spec PyProof.Rows L2 Dl Bk
open Fb (Kp)
open Fa (strL)
open Fi (Is sigs)
open Tt (segD stateF StOk)
open Sx (Cell sgD ceD Pairs psD inD cellsW cellsF putC allSegs whereC opD SgOk plOk mnOk inI sgB wrB Lo outC outC.imp)
def hasU (n : Nat) : D → Bool
  | .int i => decide (0 ≤ i) && decide (i < n)
  | _ => false
/-- what a look at a segment ends in -/
def segC (m : Sm) (n : Nat) (x y : D) (bad : Str → Prop) (good : Nat → Nat → Str × Str → Prop) : Prop := (hasU n x = false → bad "NoCommit") ∧ ∀ k : Nat, x = inD k → k < n → (sgB (m.pr k) y = false → bad "NoNumber") ∧ ∀ (j : Nat) (p : Str × Str), y = inD j → (m.pr k)[j]? = some p → good k j p
theorem segC.imp {m : Sm} {n : Nat} {x y : D} {bad bad' : Str → Prop} {good good' : Nat → Nat → Str × Str → Prop} (h : segC m n x y bad good) (hb : ∀ k, bad k → bad' k) (hg : ∀ k j p, good k j p → good' k j p) : segC m n x y bad' good' :=
  ⟨fun e => hb _ (h.1 e), fun k e1 e2 => ⟨fun e => hb _ ((h.2 k e1 e2).1 e), fun j p e3 e4 => hg _ _ _ ((h.2 k e1 e2).2 j p e3 e4)⟩⟩
def sp_Sheet_need_segment : SpD := fun ds s Q E => ∃ (l : Nat) (m : Sm) (n : Nat) (b g : List Ent) (f : Fp) (x y : D), ds = [.ref l, x, y] ∧ ShU l m n b g f s ∧ (szB NN x = true ∧ szB NN y = true) ∧ segC m n x y (fun k => E k [] s) fun _ _ _ => Q .non s
theorem mono_Sheet_need_segment : MonoSp sp_Sheet_need_segment := fun _ _ _ _ _ _ f g ⟨a, b, c, d, e, k, x, y, h1, h2, h3, h⟩ => ⟨a, b, c, d, e, k, x, y, h1, h2, h3, h.imp (fun _ h => g _ _ _ h) fun _ _ _ h => f _ _ h⟩
theorem len_Sheet_need_segment : ∀ ds s Q E, sp_Sheet_need_segment ds s Q E → ds.length = ["self", "commit", "segment"].length := fun _ _ _ _ ⟨_, _, _, _, _, _, _, _, h, _⟩ => by rw [h]; rfl
def sp_Sheet_segment : SpD := fun ds s Q E => ∃ (l : Nat) (m : Sm) (n : Nat) (b g : List Ent) (f : Fp) (x y : D), ds = [.ref l, x, y] ∧ ShU l m n b g f s ∧ (szB NN x = true ∧ szB NN y = true) ∧ segC m n x y (fun k => E k [] s) fun _ _ p => Q (segD p) s
theorem mono_Sheet_segment : MonoSp sp_Sheet_segment := fun _ _ _ _ _ _ f g ⟨a, b, c, d, e, k, x, y, h1, h2, h3, h⟩ => ⟨a, b, c, d, e, k, x, y, h1, h2, h3, h.imp (fun _ h => g _ _ _ h) fun _ _ _ h => f _ _ h⟩
theorem len_Sheet_segment : ∀ ds s Q E, sp_Sheet_segment ds s Q E → ds.length = ["self", "commit", "segment"].length := fun _ _ _ _ ⟨_, _, _, _, _, _, _, _, h, _⟩ => by rw [h]; rfl
def sp_Sheet_where : SpD := fun ds s Q E => ∃ (l : Nat) (m : Sm) (n : Nat) (b g : List Ent) (f : Fp) (x y : D), ds = [.ref l, x, y] ∧ (ShU l m n b g f s ∧ Bd m n b g ∧ SmOk m n) ∧ (szB NN x = true ∧ szB NN y = true) ∧ segC m n x y (fun k => E k [] s) fun k j p => Q (opD (whereC m.cells k j p.2)) s
theorem mono_Sheet_where : MonoSp sp_Sheet_where := fun _ _ _ _ _ _ f g ⟨a, b, c, d, e, k, x, y, h1, h2, h3, h⟩ => ⟨a, b, c, d, e, k, x, y, h1, h2, h3, h.imp (fun _ h => g _ _ _ h) fun _ _ _ h => f _ _ h⟩
theorem len_Sheet_where : ∀ ds s Q E, sp_Sheet_where ds s Q E → ds.length = ["self", "commit", "segment"].length := fun _ _ _ _ ⟨_, _, _, _, _, _, _, _, h, _⟩ => by rw [h]; rfl
def stU (m : Sm) : D → Bool
  | .int i => decide (0 ≤ i) && decide (i.toNat ∈ m.up)
  | _ => false
/-- what a mend ends in -/
def mendU (m : Sm) (x y w : D) (bad : Str → Prop) (good : Nat → Nat → Nat → Str × Str → Str → Prop) : Prop := (stU m x = false → bad "NoCommit") ∧
  ∀ k : Nat, x = inD k → k ∈ m.up → (sgB (m.pr k) y = false → bad "NoNumber") ∧ ∀ (j : Nat) (p : Str × Str), y = inD j → (m.pr k)[j]? = some p → (wrB p w = false → bad "NoWord") ∧
    ∀ z, w = .str z → wrB p w = true → (whereC m.cells k j p.2 = none → bad "NoWhole") ∧ ∀ i, whereC m.cells k j p.2 = some i → good k j i p z
theorem mendU.imp {m : Sm} {x y w : D} {bad bad' : Str → Prop} {good good' : Nat → Nat → Nat → Str × Str → Str → Prop} (h : mendU m x y w bad good) (hb : ∀ k, bad k → bad' k) (hg : ∀ k j i p z, good k j i p z → good' k j i p z) : mendU m x y w bad' good' :=
  ⟨fun e => hb _ (h.1 e), fun k e1 e2 => ⟨fun e => hb _ ((h.2 k e1 e2).1 e), fun j p e4 e5 => ⟨fun e => hb _ (((h.2 k e1 e2).2 j p e4 e5).1 e), fun z e6 e7 => ⟨fun e => hb _ ((((h.2 k e1 e2).2 j p e4 e5).2 z e6 e7).1 e), fun i e => hg _ _ _ _ _ ((((h.2 k e1 e2).2 j p e4 e5).2 z e6 e7).2 i e)⟩⟩⟩⟩
open Tt (sp_is_segment sp_is_state)
open Sx (sp_cells_of)
def b_Sheet_need_segment (W : WXD) : SD := (dSeq (dIfS (dOr (dNot (dTest (dCall sp_is_count [] (dCons (dVar 1) dNil)))) (dTest (dDIn Bool.not (dVar 1) (dFld "Sheet" "pair_rows" (dVar 0))))) (dRaise W "NoCommit") dNext)
  (dIfS (dOr (dNot (dTest (dCall sp_is_count [] (dCons (dVar 2) dNil)))) (dTest (dBin (oF geF) (dVar 2) (dCB lenF (dCons (dDGet (dFld "Sheet" "pair_rows" (dVar 0)) (dVar 1)) dNil))))) (dRaise W "NoNumber") dNext))
def b_Sheet_segment (W : WXD) : SD := (dSeq (dDrop (dMeth W "Sheet" "need_segment" sp_Sheet_need_segment [] (dVar 0) (dCons (dVar 1) (dCons (dVar 2) dNil))))
  (dRet (dBin (oF idxF) (dDGet (dFld "Sheet" "pair_rows" (dVar 0)) (dVar 1)) (dVar 2))))
def b_Sheet_where (W : WXD) : SD := (dSeq (dAsg (dMeth W "Sheet" "segment" sp_Sheet_segment [] (dVar 0) (dCons (dVar 1) (dCons (dVar 2) dNil))) (gTs [3, 4]))
  (dSeq (dAsg (dCall sp_cells_of [] (dCons (dVar 1) (dCons (dVar 2) (dCons (dVar 4) dNil)))) (gN 5))
  (dSeq (dAsg (dLc (iW (dFld "Sheet" "cell_row" (dVar 0))) (CT.g (.many [8, 9])) dYes (dVar 9) [8, 9]) (gN 6))
  (dSeq (dAsg (dLc (iEnL (dCons (dVar 6) dNil)) (CT.g (.many [10, 9])) (dAnd (dTest (dBin (oF isNotF) (dVar 9) (dC .non))) (dTest (dBin (oF eqF) (dSl (dVar 9) dNoP (dP (dC (.int 2)))) (dTup (dCons (dVar 1) (dCons (dVar 2) dNil)))))) (dVar 10) [10, 9]) (gN 7))
  (dSeq (dIfS (dOr (dTest (dBin (oF neF) (dCB lenF (dCons (dVar 7) dNil)) (dCB lenF (dCons (dVar 5) dNil)))) (dTest (dBin (oF neF) (dSl (dFld "Sheet" "cell_row" (dVar 0)) (dP (dBin (oF idxF) (dVar 7) (dC (.int 0)))) (dP (dBin (oF addF) (dBin (oF idxF) (dVar 7) (dC (.int 0))) (dCB lenF (dCons (dVar 5) dNil))))) (dVar 5)))) (dRet (dC .non)) dNext)
  (dRet (dBin (oF idxF) (dVar 7) (dC (.int 0)))))))))
end Su
set_option Elab.async false
set_option linter.all false
set_option autoImplicit false
set_option maxRecDepth 100000
set_option maxHeartbeats 4000000
namespace Su
open PySem PySem.Spec PyProof.Rows L2 Dl Bk
open Fb (Kp Kp.app Kp.set Kp.trans Kp.refl Kp.get)
open Fi (Is Is.up Is.lt Is.app Is.set sigs)
open Tt (segD stD stateF StOk ok_of sp_is_state)
open Fa (powOk10 ifD ifB ifT ifF two three strL strL_length strL_cps fapp txt_join_signs)
open Sx (Cell sgD ceD Pairs psD inD cellsW cellsF putC allSegs whereC opD SgOk SgOk.w plOk mnOk inI sgB wrB Lo outC outC.imp inD_inj sz_in ix_ps sgB_in mid_get len_rf list_rf isSeg spots segP segP_or enum_gen fstD getD_map slice_two slice_mid slice_midR where_ne where_cons spots_cons beqL cellsW_len ix_spot eq_two neF_cells sp_cells_of enF enumD_eF)
theorem get_prs {m : Sm} {n k : Nat} (hk : k < n) : (DV.k (zipN (prsD m n))).get (inD k) = some (some (psD (m.pr k))) := by
  show some (getP (zipN (prsD m n)) (.inl (k : Int))) = _
  rw [getN_rev _ k (psD (m.pr k)) (by unfold prsD; rw [List.getElem?_map, List.getElem?_range hk]; rfl)]
theorem get_noU {m : Sm} {n k : Nat} (hk : n ≤ k) : (DV.k (zipN (prsD m n))).get (inD k) = some none := by
  show some (getP (zipN (prsD m n)) (.inl (k : Int))) = _
  rw [getN_no _ k (by rw [prs_len]; exact hk)]
section
variable (ds : List D) (s : Sto) (Q : D → Sto → Prop) (E : XD)
theorem pf_Sheet_need_segment (h : sp_Sheet_need_segment ds s Q E) : b_Sheet_need_segment (fun y fs _ s' => E y fs s') (endsOf Q) (envD ["self", "commit", "segment"] ds) s := by
  obtain ⟨l, m, n, b, g, f, x, y, rfl, ⟨h0, h1, h2, h3, h4, h5, hok⟩, ⟨zx, zy⟩, hn, hy⟩ := h
  refine ⟨_, rfl, x, rfl, zx, _, rfl, ?_⟩
  cases e : isCnt x with
  | false =>
    refine ifT (hn ?_)
    cases x with
    | int i =>
      have : decide (0 ≤ i) = false := e
      show (decide (0 ≤ i) && _) = false
      rw [this]; rfl
    | _ => rfl
  | true =>
    obtain ⟨i, rfl⟩ : ∃ i, x = .int i := by cases x <;> first | exact ⟨_, rfl⟩ | cases e
    have e0 : 0 ≤ i := of_decide_eq_true e
    obtain ⟨k, rfl⟩ : ∃ k : Nat, i = (k : Nat) := ⟨i.toNat, by omega⟩
    by_cases hk : k < n
    · have hg := get_prs (m := m) hk
      obtain ⟨g1, g2⟩ := hy k rfl hk
      refine ifF ⟨_, rfl, _, rfl, l, _, _, rfl, h0, rfl, _, _, dictD_N h2, hg, _, rfl, ifF ?_⟩
      refine ⟨_, rfl, y, rfl, zy, _, rfl, ?_⟩
      cases e2 : isCnt y with
      | false =>
        refine ifT (g1 ?_)
        cases y with
        | int j =>
          have : decide (0 ≤ j) = false := e2
          show (decide (0 ≤ j) && _) = false
          rw [this]; rfl
        | _ => rfl
      | true =>
        obtain ⟨j, rfl⟩ : ∃ j, y = .int j := by cases y <;> first | exact ⟨_, rfl⟩ | cases e2
        have f0 : 0 ≤ j := of_decide_eq_true e2
        refine ifF ⟨_, rfl, _, rfl, l, _, _, rfl, h0, rfl, _, rfl, _, _, dictD_N h2, hg, _, rfl, _, rfl, _, rfl, ?_⟩
        refine ifD (fun hc => ?_) fun hc => ?_
        · have hc : ((((m.pr k).map segD).length : Nat) : Int) ≤ j := hc
          rw [List.length_map] at hc
          refine g1 ?_
          show (decide (0 ≤ j) && decide (j < ((m.pr k).length : Int))) = false
          rw [decide_eq_false (by omega : ¬ j < ((m.pr k).length : Int))]; simp
        · have hc : ¬ ((((m.pr k).map segD).length : Nat) : Int) ≤ j := hc
          rw [List.length_map] at hc
          obtain ⟨jj, rfl⟩ : ∃ jj : Nat, j = (jj : Nat) := ⟨j.toNat, by omega⟩
          exact g2 jj _ rfl (List.getElem?_eq_getElem (show jj < (m.pr k).length by omega))
    · refine ifF ⟨_, rfl, _, rfl, l, _, _, rfl, h0, rfl, _, _, dictD_N h2, get_noU (by omega), _, rfl, ifT (hn ?_)⟩
      show (decide (0 ≤ ((k : Nat) : Int)) && decide (((k : Nat) : Int) < (n : Int))) = false
      rw [decide_eq_false (by omega : ¬ ((k : Nat) : Int) < (n : Int))]; simp
theorem segC.strip {m : Sm} {n : Nat} {x y : D} {bad : Str → Prop} {good good' : Nat → Nat → Str × Str → Prop} (h : segC m n x y bad good) (hg : ∀ (k j : Nat) (p : Str × Str), x = inD k → k < n → y = inD j → (m.pr k)[j]? = some p → good k j p → good' k j p) : segC m n x y bad good' :=
  ⟨h.1, fun k e1 e2 => ⟨(h.2 k e1 e2).1, fun j p e3 e4 => hg k j p e1 e2 e3 e4 ((h.2 k e1 e2).2 j p e3 e4)⟩⟩
theorem pf_Sheet_segment (h : sp_Sheet_segment ds s Q E) : b_Sheet_segment (fun y fs _ s' => E y fs s') (endsOf Q) (envD ["self", "commit", "segment"] ds) s := by
  obtain ⟨l, m, n, b, g, f, x, y, rfl, SH, Z, C⟩ := h
  have SH' := SH
  obtain ⟨h0, h1, h2, h3, h4, h5, hok⟩ := SH'
  refine ⟨_, rfl, l, _, rfl, h0, rfl, _, rfl, _, rfl, l, m, n, b, g, f, x, y, rfl, SH, Z, C.strip fun k j p ex hk ey hj q => ?_⟩
  subst ex ey
  exact ⟨_, rfl, l, _, _, rfl, h0, rfl, _, rfl, _, _, dictD_N h2, get_prs hk, _, rfl, _, ix_ps hj, q⟩
theorem pf_Sheet_where (h : sp_Sheet_where ds s Q E) : b_Sheet_where (fun y fs _ s' => E y fs s') (endsOf Q) (envD ["self", "commit", "segment", "reading", "writing", "due", "origins", "spots", "sign", "origin", "at"] ds) s := by
  obtain ⟨l, m, n, b, g, f, x, y, rfl, ⟨SH, BD, OK⟩, Z, C⟩ := h
  have SH' := SH
  obtain ⟨h0, h1, h2, h3, h4, h5, hok⟩ := SH'
  have hc := BD.c
  have hen : ∀ ds : List D, (enumD ds).length = ds.length := fun ds => by simp [enumD]
  refine ⟨_, rfl, l, _, rfl, h0, rfl, _, rfl, _, rfl, l, m, n, b, g, f, x, y, rfl, SH, Z, C.strip fun k j p ex hk ey hj q => ?_⟩
  subst ex ey
  obtain ⟨w1, w2⟩ := ((OK.ps k hk).2.2 p (List.mem_of_getElem? hj)).w
  refine ⟨_, rfl, rfl, ?_⟩
  refine ⟨_, rfl, _, rfl, _, rfl, k, j, p.2, rfl, by omega, ?_⟩
  refine ⟨_, rfl, l, _, _, rfl, h0, rfl, _, _, isW_ref h1, le_line (by rw [List.length_map]; omega), ?_⟩
  refine lcD_pure (fun _ => true) (fun d => match d with | .tup [_, b] => b | d => d) h1 (fun d hd k1 k0 g1 g0 => ?_) ?_
  · obtain ⟨c, hc, rfl⟩ := List.mem_map.mp hd
    exact ⟨_, rfl, rfl, _, rfl, g1 rfl⟩
  rw [List.filter_eq_self.mpr (fun _ _ => rfl), show (m.cells.map ceD).map (fun d => match d with | .tup [_, b] => b | d => d) = (m.cells.map (·.2)).map orD by rw [List.map_map, List.map_map]; rfl]
  refine ⟨_, rfl, _, rfl, le_line (by rw [hen, List.length_map, List.length_map]; omega), ?_⟩
  refine lcD_pure (fun d => match d with | .tup [_, x] => segP k j x | _ => false) fstD trivial (fun d hd k1 k0 g1 g0 => ?_) ?_
  · unfold enumD at hd
    obtain ⟨i, hi, rfl⟩ := List.mem_map.mp hd
    have hi := List.mem_range.mp hi
    rw [List.length_map] at hi
    rw [getD_map orD hi] at g1 g0 ⊢
    generalize (m.cells.map (·.2))[i] = o at g1 g0 ⊢
    refine ⟨_, rfl, rfl, ?_⟩
    cases o with
    | none => exact ⟨_, rfl, _, rfl, _, rfl, ifF (ifF (g0 rfl))⟩
    | some o =>
      obtain ⟨a, b, c⟩ := o
      refine ⟨_, rfl, _, rfl, _, rfl, ifT ⟨_, rfl, _, rfl, _, slice_two, _, rfl, _, rfl, Dl.ll, _, eq_two, _, rfl, ?_⟩⟩
      exact ifB (fun hb => ⟨_, rfl, g1 hb⟩) (fun hb => g0 hb)
  rw [enum_gen orD id (k := k) (j := j) _ (fun i a => segP_or a), List.map_id]
  refine ⟨_, rfl, _, rfl, _, rfl, _, rfl, _, ne_ii, _, rfl, ?_⟩
  have hlen : ((cellsW k j p.2).map ceD).length = p.2.length := by rw [List.length_map, cellsW_len]
  rw [List.length_map, hlen, beqL]
  by_cases hl : (spots k j (m.cells.map (·.2))).length = p.2.length
  · obtain ⟨i, r, e⟩ := spots_cons (w := p.2) w1 hl
    rw [decide_eq_true hl]
    rw [where_cons e] at q
    rw [e] at hl ⊢
    refine ifF ⟨_, rfl, l, _, _, rfl, h0, rfl, _, rfl, _, ix_spot, _, rfl, _, rfl, _, ix_spot, _, rfl, _, rfl, _, rfl, _, rfl, _, slice_midR h1, _, rfl, _, neF_cells, _, rfl, ?_⟩
    rw [hlen]
    by_cases he : (m.cells.drop i).take p.2.length = cellsW k j p.2
    · rw [decide_eq_true he]
      rw [if_pos ⟨hl, he⟩] at q
      refine ifF ?_
      dsimp only [dNext]
      exact ⟨_, rfl, _, ix_spot, q⟩
    · rw [decide_eq_false he]
      rw [if_neg (fun e => he e.2)] at q
      exact ifT q
  · rw [where_ne hl] at q
    rw [decide_eq_false hl]
    exact ifT (ifT q)
end
end Su
set_option Elab.async false
set_option linter.all false
set_option autoImplicit false
set_option maxRecDepth 100000
set_option maxHeartbeats 4000000
namespace Su
open PySem PySem.Spec PyProof.Rows L2 Dl Bk
open Fb (Kp Kp.app Kp.set Kp.trans Kp.refl Kp.get)
open Fi (Is Is.up Is.lt Is.app Is.set sigs)
open Tt (segD stD stateF StOk ok_of sp_is_state)
open Fa (powOk10 ifD ifB ifT ifF two three strL strL_length strL_cps fapp txt_join_signs)
open Sx (Cell sgD ceD Pairs psD inD cellsW cellsF putC allSegs whereC opD SgOk SgOk.w plOk mnOk inI sgB wrB Lo outC outC.imp inD_inj sz_in ix_ps sgB_in mid_get len_rf list_rf isSeg spots segP segP_or enum_gen fstD getD_map slice_two slice_mid slice_midR where_ne where_cons spots_cons beqL cellsW_len ix_spot eq_two neF_cells sp_cells_of enF enumD_eF sl_to sl_from)
theorem hasU_in {n k : Nat} (hk : k < n) : hasU n (inD k) = true := by
  show (decide (0 ≤ ((k : Nat) : Int)) && decide (((k : Nat) : Int) < (n : Int))) = true
  rw [decide_eq_true (by omega), decide_eq_true (by omega)]; rfl
end Su
set_option Elab.async false
set_option linter.all false
set_option autoImplicit false
set_option maxRecDepth 100000
set_option maxHeartbeats 4000000
namespace Sx
open PySem PySem.Spec PyProof.Rows L2 Dl Bk
open Fb (Kp Kp.app Kp.set Kp.trans Kp.refl Kp.get)
open Fi (Is Is.up Is.lt Is.app Is.set sigs)
open Tt (segD stD stateF StOk ok_of sp_is_state)
open Fa (powOk10 ifD ifB ifT ifF two three strL strL_length strL_cps fapp txt_join_signs)
end Sx
set_option Elab.async false
set_option linter.all false
set_option autoImplicit false
set_option maxRecDepth 100000
set_option maxHeartbeats 4000000
namespace Su
open PySem PySem.Spec PyProof.Rows L2 Dl Bk
open Fb (Kp)
open Fa (strL)
open Fi (Is sigs)
open Tt (segD stateF StOk)
open Sx (Cell sgD ceD Pairs psD inD cellsW cellsF putC allSegs whereC opD SgOk SgOk.w plOk mnOk inI sgB wrB Lo outC outC.imp)
def UpInj (m : Sm) : Prop := ∀ (a b k : Nat), m.up[a]? = some k → m.up[b]? = some k → a = b
/-- a step of the law -/
inductive Stp where
  | put (i : Nat) (z : Str)
  | cut (i g : Nat)
  | commit (i g k : Nat) (ps : Pairs)
  | mend (k j : Nat) (w : Str)
def Stp.d : Stp → D
  | .put i z => .tup [.str "put", inD i, .str z]
  | .cut i g => .tup [.str "cut", inD i, inD g]
  | .commit i g k ps => .tup [.str "commit", inD i, inD g, inD k, psD ps]
  | .mend k j w => .tup [.str "mend", inD k, inD j, .str w]
def Sm.app (m : Sm) : Stp → Sm
  | .put i z => m.rep (i : Nat) 0 (putC z)
  | .cut i g => m.rep (i : Nat) (g : Nat) []
  | .commit i g k ps => m.commit (i : Nat) (g : Nat) k ps
  | .mend k j w => match (m.pr k)[j]? with
    | some p => match whereC m.cells k j p.2 with
      | some i => m.mend k j i p w
      | none => m
    | none => m
/-- its place, how many cells went, how many came -/
def Stp.told (m : Sm) : Stp → Nat × Nat × Nat
  | .put i z => (i, 0, z.length)
  | .cut i g => (i, g, 0)
  | .commit i g k ps => (i, g, (cellsF k 0 ps).length)
  | .mend k j w => match (m.pr k)[j]? with
    | some p => match whereC m.cells k j p.2 with
      | some i => (i, p.2.length, w.length)
      | none => (0, 0, 0)
    | none => (0, 0, 0)
/-- whether a step can be done -/
def Stp.ok (m : Sm) : Stp → Prop
  | .put i z => i ≤ m.cells.length ∧ sgnF sigs 40 (.str z) = true ∧ z.length ≤ 40
  | .cut i g => 1 ≤ g ∧ i + g ≤ m.cells.length
  | .commit i g k ps => i + g ≤ m.cells.length ∧ k ∉ m.up ∧ 1 ≤ ps.length ∧ ps.length ≤ 5 ∧ (ps.map fun p => (p.1.length : Int)).sum ≤ 40 ∧ ∀ p ∈ ps, SgOk p
  | .mend k j w => k ∈ m.up ∧ ∃ p i, (m.pr k)[j]? = some p ∧ whereC m.cells k j p.2 = some i ∧ SgOk p ∧ wrB p (.str w) = true ∧ w.length ≤ 40
/-- what steps lead to -/
def made (T : List Stp) : Sm := T.foldl Sm.app ⟨[], fun _ => [], []⟩
/-- steps that can be done one behind the other -/
structure Tl (T : List Stp) : Prop where
  ok : ∀ (i : Nat) (st : Stp), T[i]? = some st → st.ok (made (T.take i))
  c : ∀ i : Nat, (made (T.take i)).cells.length ≤ 400
  u : ∀ i : Nat, UpInj (made (T.take i)) ∧ (made (T.take i)).up.length ≤ T.length
end Su
set_option Elab.async false
set_option linter.all false
set_option autoImplicit false
set_option maxRecDepth 100000
set_option maxHeartbeats 4000000
namespace Su
open PySem PySem.Spec PyProof.Rows L2 Dl Bk
open Fb (Kp Kp.app Kp.set Kp.trans Kp.refl Kp.get)
open Fi (Is Is.up Is.lt Is.app Is.set sigs)
open Tt (segD stD stateF StOk ok_of sp_is_state)
open Fa (powOk10 ifD ifB ifT ifF two three strL strL_length strL_cps fapp txt_join_signs)
open Sx (Cell sgD ceD Pairs psD inD cellsW cellsF putC allSegs whereC opD SgOk SgOk.w plOk mnOk inI sgB wrB Lo outC outC.imp inD_inj sz_in ix_ps sgB_in mid_get len_rf list_rf isSeg spots segP segP_or enum_gen fstD getD_map slice_two slice_mid slice_midR where_ne where_cons spots_cons beqL cellsW_len ix_spot eq_two neF_cells sp_cells_of enF enumD_eF)
end Su
set_option Elab.async false
set_option linter.all false
set_option autoImplicit false
set_option maxRecDepth 100000
set_option maxHeartbeats 4000000
namespace Su
open PySem PySem.Spec PyProof.Rows L2 Dl Bk
open Fb (Kp Kp.app Kp.set Kp.trans Kp.refl Kp.get)
open Fi (Is Is.up Is.lt Is.app Is.set sigs)
open Tt (segD stD stateF StOk ok_of sp_is_state)
open Fa (powOk10 ifD ifB ifT ifF two three strL strL_length strL_cps fapp txt_join_signs)
open Sx (Cell sgD ceD Pairs psD inD cellsW cellsF putC allSegs whereC opD SgOk SgOk.w plOk mnOk inI sgB wrB Lo outC outC.imp inD_inj sz_in ix_ps sgB_in mid_get len_rf list_rf isSeg spots segP segP_or enum_gen fstD getD_map slice_two slice_mid slice_midR where_ne where_cons spots_cons beqL cellsW_len ix_spot eq_two neF_cells sp_cells_of enF enumD_eF)
theorem drop_consS {α : Type} {l : List α} {k : Nat} {x : α} {r : List α} (h : l.drop k = x :: r) : l[k]? = some x ∧ l.drop (k + 1) = r := by
  constructor
  · have : (l.drop k)[0]? = some x := by rw [h]; rfl
    rw [List.getElem?_drop, Nat.add_zero] at this
    exact this
  · rw [← List.drop_drop, h]; rfl
end Su
set_option Elab.async false
set_option linter.all false
set_option autoImplicit false
set_option maxRecDepth 100000
set_option maxHeartbeats 4000000
namespace Su
open PySem PySem.Spec PyProof.Rows L2 Dl Bk
open Fb (Kp Kp.app Kp.set Kp.trans Kp.refl Kp.get)
open Fi (Is Is.up Is.lt Is.app Is.set sigs)
open Tt (segD stD stateF StOk ok_of sp_is_state)
open Fa (powOk10 ifD ifB ifT ifF two three strL strL_length strL_cps fapp txt_join_signs)
open Sx (Cell sgD ceD Pairs psD inD cellsW cellsF putC allSegs whereC opD SgOk SgOk.w plOk mnOk inI sgB wrB Lo outC outC.imp inD_inj sz_in ix_ps sgB_in mid_get len_rf list_rf isSeg spots segP segP_or enum_gen fstD getD_map slice_two slice_mid slice_midR where_ne where_cons spots_cons beqL cellsW_len ix_spot eq_two neF_cells sp_cells_of enF enumD_eF ixm)
theorem mulOk_b {a b : Int} (ha : a.natAbs < 2 ^ 400) (hb : b.natAbs < 2 ^ 400) : MulOk a b :=
  IntMulOk.of_bits (Nat.le_trans (intBits_le_iff.mpr ha) (by decide)) (Nat.le_trans (intBits_le_iff.mpr hb) (by decide))
theorem ne_l0R {s : Sto} {l : Nat} {xs : List D} (h : s[l]? = some (some (.lst xs))) : neF s (.ref l) (.lst []) = some (.bl (!decide (xs = []))) := by
  unfold neF
  rw [drf_ref h, drf_lst]
  have := ne_l0 (s := s) (xs := xs)
  unfold neF at this
  rw [drf_lst, drf_lst] at this
  exact this
end Su
set_option Elab.async false
set_option linter.all false
set_option autoImplicit false
set_option maxRecDepth 100000
set_option maxHeartbeats 4000000
namespace Su
open PySem PySem.Spec PyProof.Rows L2 Dl Bk
open Fb (Kp Kp.app Kp.set Kp.trans Kp.refl Kp.get)
open Fi (Is Is.up Is.lt Is.app Is.set sigs)
open Tt (segD stD stateF StOk ok_of sp_is_state)
open Fa (powOk10 ifD ifB ifT ifF two three strL strL_length strL_cps fapp txt_join_signs)
open Sx (Cell sgD ceD Pairs psD inD cellsW cellsF putC allSegs whereC opD SgOk SgOk.w plOk mnOk inI sgB wrB Lo outC outC.imp inD_inj sz_in ix_ps sgB_in mid_get len_rf list_rf isSeg spots segP segP_or enum_gen fstD getD_map slice_two slice_mid slice_midR where_ne where_cons spots_cons beqL cellsW_len ix_spot eq_two neF_cells sp_cells_of enF enumD_eF)
end Su
set_option Elab.async false
set_option linter.all false
set_option autoImplicit false
set_option maxRecDepth 100000
set_option maxHeartbeats 4000000
namespace Su
open PySem PySem.Spec PyProof.Rows L2 Dl Bk
open Fb (Kp)
open Fi (Is sigs)
open Tt (segD stateF StOk)
open Sx (Cell sgD ceD Pairs psD inD cellsW cellsF putC allSegs whereC opD SgOk SgOk.w plOk mnOk inI sgB wrB Lo)
structure Agr (m M : Sm) : Prop where
  c : m.cells = M.cells
  u : m.up = M.up
  p : ∀ k ∈ M.up, m.pr k = M.pr k
def Stp.one : Stp → Nat
  | .commit .. => 1
  | _ => 0
theorem Agr.ok {m M : Sm} {st : Stp} (A : Agr m M) (h : st.ok M) : st.ok m := by
  cases st with
  | put i z =>
    show i ≤ m.cells.length ∧ _
    rw [A.c]; exact h
  | cut i g =>
    show 1 ≤ g ∧ i + g ≤ m.cells.length
    rw [A.c]; exact h
  | commit i g k ps =>
    show i + g ≤ m.cells.length ∧ k ∉ m.up ∧ _
    rw [A.c, A.u]; exact h
  | mend k j w =>
    obtain ⟨h1, p, i, h2, h3, h4⟩ := h
    exact ⟨by rw [A.u]; exact h1, p, i, by rw [A.p k h1]; exact h2, by rw [A.c]; exact h3, h4⟩
theorem Agr.told {m M : Sm} {st : Stp} (A : Agr m M) (h : st.ok M) : st.told m = st.told M := by
  cases st with
  | put i z => rfl
  | cut i g => rfl
  | commit i g k ps => rfl
  | mend k j w =>
    obtain ⟨h1, p, i, h2, h3, h4⟩ := h
    have h2' : (m.pr k)[j]? = some p := by rw [A.p k h1]; exact h2
    have h3' : whereC m.cells k j p.2 = some i := by rw [A.c]; exact h3
    simp only [Stp.told, h2, h3, h2', h3']
theorem Agr.app {m M : Sm} {st : Stp} (A : Agr m M) (h : st.ok M) : Agr (m.app st) (M.app st) := by
  have rc : ∀ (i g : Int) (new : List Cell), (m.rep i g new).cells = (M.rep i g new).cells := fun i g new => by
    show m.cells.take _ ++ new ++ m.cells.drop _ = M.cells.take _ ++ new ++ M.cells.drop _
    rw [A.c]
  cases st with
  | put i z => exact ⟨rc _ _ _, A.u, A.p⟩
  | cut i g => exact ⟨rc _ _ _, A.u, A.p⟩
  | commit i g k ps =>
    refine ⟨rc _ _ _, ?_, fun x hx => ?_⟩
    · show m.up ++ [k] = M.up ++ [k]
      rw [A.u]
    · show (if x = k then ps else m.pr x) = if x = k then ps else M.pr x
      by_cases e : x = k
      · rw [if_pos e, if_pos e]
      · rw [if_neg e, if_neg e]
        have hx : x ∈ M.up ++ [k] := hx
        rcases List.mem_append.mp hx with h' | h'
        · exact A.p x h'
        · exact absurd (List.mem_singleton.mp h') e
  | mend k j w =>
    obtain ⟨h1, p, i, h2, h3, h4⟩ := h
    have h2' : (m.pr k)[j]? = some p := by rw [A.p k h1]; exact h2
    have h3' : whereC m.cells k j p.2 = some i := by rw [A.c]; exact h3
    simp only [Sm.app, h2, h3, h2', h3']
    refine ⟨rc _ _ _, A.u, fun x hx => ?_⟩
    show (if x = k then (m.pr k).set j (p.1, w) else m.pr x) = if x = k then (M.pr k).set j (p.1, w) else M.pr x
    rw [A.p k h1]
    by_cases e : x = k
    · rw [if_pos e, if_pos e]
    · rw [if_neg e, if_neg e]
      exact A.p x hx
theorem app_upl {m : Sm} {st : Stp} : (m.app st).up.length ≤ m.up.length + 1 := by
  cases st with
  | put i z => exact Nat.le_succ _
  | cut i g => exact Nat.le_succ _
  | commit i g k ps =>
    show (m.up ++ [k]).length ≤ _
    rw [List.length_append]; exact Nat.le_refl _
  | mend k j w =>
    simp only [Sm.app]
    split
    · split
      · exact Nat.le_succ _
      · exact Nat.le_succ _
    · exact Nat.le_succ _
theorem made_upl (T : List Stp) : (made T).up.length ≤ T.length := by
  have g : ∀ (T : List Stp) (m : Sm), (T.foldl Sm.app m).up.length ≤ m.up.length + T.length := by
    intro T
    induction T with
    | nil => intro m; exact Nat.le_refl _
    | cons st T ih =>
      intro m
      have h1 := ih (m.app st)
      have h2 := app_upl (m := m) (st := st)
      show ((T.foldl Sm.app (m.app st))).up.length ≤ m.up.length + (T.length + 1)
      omega
  have := g T ⟨[], fun _ => [], []⟩
  simpa [made] using this
theorem Tl.nil : Tl [] := by
  refine ⟨(fun i st h => by simp at h), fun i => ?_, fun i => ?_⟩
  · rw [List.take_nil]; exact Nat.zero_le _
  · rw [List.take_nil]
    exact ⟨(fun a b k h => by simp [made] at h), Nat.le_refl _⟩
theorem take_lt {T : List Stp} {t i : Nat} (h : i ≤ t) : (T.take t).take i = T.take i := by
  rw [List.take_take, Nat.min_eq_left h]
theorem Tl.take {T : List Stp} (h : Tl T) (t : Nat) : Tl (T.take t) := by
  refine ⟨fun i st hi => ?_, fun i => ?_, fun i => ?_⟩
  · have hl := (List.getElem?_eq_some_iff.mp hi).1
    rw [List.length_take] at hl
    rw [List.getElem?_take_of_lt (by omega)] at hi
    rw [take_lt (by omega)]
    exact h.ok i st hi
  · rw [List.take_take]; exact h.c _
  · refine ⟨by rw [List.take_take]; exact (h.u _).1, ?_⟩
    have := made_upl ((T.take t).take i)
    rw [List.length_take] at this
    omega
/-- what an entry tells is what the step told -/
def EntS (e : Ent) (st : Stp) (M : Sm) : Prop := e.at_ = ((st.told M).1 : Nat) ∧ e.went = ((st.told M).2.1 : Nat) ∧ e.came = ((st.told M).2.2 : Nat)
/-- an entry: the model behind i steps, the step j -/
structure EntL (T : List Stp) (n i j : Nat) (e : Ent) : Prop where
  le : e.n ≤ n
  ok : SmOk e.m e.n
  ag : Agr e.m (made (T.take i))
  st : ∃ st, T[j]? = some st ∧ EntS e st (made (T.take j))
/-- the steps T, t of them done -/
structure Line (T : List Stp) (t : Nat) (m : Sm) (n : Nat) (b g : List Ent) : Prop where
  tl : Tl T
  ag : Agr m (made (T.take t))
  ok : SmOk m n
  bl : b.length = t
  gl : g.length + t = T.length
  be : ∀ (i : Nat) (e : Ent), b[i]? = some e → EntL T n i i e
  ge : ∀ (x : Nat) (e : Ent), g[x]? = some e → EntL T n (T.length - x) (T.length - x - 1) e
theorem EntL.up {T : List Stp} {n n' i j : Nat} {e : Ent} (h : EntL T n i j e) (hn : n ≤ n') : EntL T n' i j e := ⟨Nat.le_trans h.le hn, h.ok, h.ag, h.st⟩
theorem Line.bd {T : List Stp} {t : Nat} {m : Sm} {n : Nat} {b g : List Ent} (L : Line T t m n b g) (hT : T.length ≤ 500) (hn : n ≤ 900) : Bd m n b g := by
  have hb := L.bl
  have hg := L.gl
  refine ⟨by rw [L.ag.c]; exact Nat.le_trans (L.tl.c t) (by decide), by omega, by rw [L.ag.u]; have := (L.tl.u t).2; omega, by omega, by omega⟩
theorem Line.nil : Line [] 0 ⟨[], fun _ => [], []⟩ 0 [] [] := ⟨Tl.nil, ⟨rfl, rfl, fun k h => by cases h⟩, ⟨(fun a b k h => by simp at h), (fun k h => by cases h), fun k h => by omega⟩, rfl, rfl, (fun i e h => by simp at h), fun i e h => by simp at h⟩
theorem ShU_below {l : Nat} {m : Sm} {n : Nat} {bl gl : List Ent} {f : Fp} {s s' : Sto} (H : ShU l m n bl gl f s) (b : ∀ j, j < s.length → s'[j]? = s[j]?) : ShU l m n bl gl f s' := by
  obtain ⟨h0, h1, h2, h3, h4, h5, h6⟩ := H
  have up : ∀ {j : Nat} {o : Option MO}, s[j]? = some o → s'[j]? = some o := fun {j o} g => (b j (List.getElem?_eq_some_iff.mp g).1).trans g
  exact ⟨up h0, up h1, up h2, up h3, up h4, up h5, h6⟩
theorem ShU_own {l : Nat} {m : Sm} {n : Nat} {bl gl : List Ent} {f : Fp} {s s' : Sto} (H : ShU l m n bl gl f s) (b : ∀ j, Own l f j → s'[j]? = s[j]?) : ShU l m n bl gl f s' := by
  obtain ⟨h0, h1, h2, h3, h4, h5, h6⟩ := H
  exact ⟨(b _ (.inl rfl)).trans h0, (b _ (.inr (.inr (.inr (.inl rfl))))).trans h1, (b _ (.inr (.inl rfl))).trans h2, (b _ (.inr (.inr (.inr (.inr (.inl rfl)))))).trans h3, (b _ (.inr (.inr (.inl rfl)))).trans h4, (b _ (.inr (.inr (.inr (.inr (.inr rfl)))))).trans h5, h6⟩
theorem ShU.lt {l : Nat} {m : Sm} {n : Nat} {bl gl : List Ent} {f : Fp} {s : Sto} (H : ShU l m n bl gl f s) : ∀ j, Own l f j → j < s.length := by
  obtain ⟨h0, h1, h2, h3, h4, h5, h6⟩ := H
  have up : ∀ {j : Nat} {o : Option MO}, s[j]? = some o → j < s.length := fun g => (List.getElem?_eq_some_iff.mp g).1
  intro j hj
  rcases hj with rfl | rfl | rfl | rfl | rfl | rfl
  · exact up h0
  · exact up h2
  · exact up h4
  · exact up h1
  · exact up h3
  · exact up h5
theorem FrU.own {l : Nat} {f f' : Fp} {s s' : Sto} (K : FrU l f f' s s') {j : Nat} (hj : j < s.length) (h : ¬ Own l f j) : ¬ Own l f' j := by
  obtain ⟨k1, k2, k3, k4, k5⟩ := K
  unfold Own at h ⊢
  omega
end Su
set_option Elab.async false
set_option linter.all false
set_option autoImplicit false
set_option maxRecDepth 100000
set_option maxHeartbeats 4000000
namespace Su
open PySem PySem.Spec PyProof.Rows L2 Dl Bk
open Fb (Kp)
open Fi (Is sigs)
open Tt (segD stateF StOk)
open Sx (Cell sgD ceD Pairs psD inD cellsW cellsF putC allSegs whereC opD SgOk SgOk.w plOk mnOk inI sgB wrB Lo isSeg spots where_ne)
def CellsUp (m : Sm) : Prop := ∀ c ∈ m.cells, ∀ k j i, c.2 = some (k, j, i) → k ∈ m.up
theorem Agr.cells {m M : Sm} (A : Agr m M) (H : CellsUp M) : CellsUp m := fun c hc k j i e => by
  rw [A.u]
  rw [A.c] at hc
  exact H c hc k j i e
/-- the pairs of each commit when it was made -/
structure LineK (K : Nat → Pairs) (T : List Stp) (m : Sm) (n : Nat) (b g : List Ent) : Prop where
  cur : ∀ k, k < n → k ∉ m.up → m.pr k = K k
  ent : ∀ e ∈ b ++ g, ∀ k, k < e.n → k ∉ e.m.up → e.m.pr k = K k
  cs : ∀ (j i g k : Nat) (ps : Pairs), T[j]? = some (.commit i g k ps) → k < n ∧ ps = K k
theorem LineK.nil {K : Nat → Pairs} : LineK K [] ⟨[], fun _ => [], []⟩ 0 [] [] := ⟨fun k hk => by omega, (fun e he => by cases he), fun j i g k ps h => by simp at h⟩
end Su
set_option Elab.async false
set_option linter.all false
set_option autoImplicit false
set_option maxRecDepth 100000
set_option maxHeartbeats 600000
namespace Su
open PySem PySem.Spec PyProof.Rows L2 Dl Bk
open Fb (Kp Kp.app Kp.set Kp.trans Kp.refl Kp.get)
open Fi (Is Is.up Is.lt Is.app Is.set sigs)
open Tt (segD stD stateF StOk ok_of sp_is_state)
open Fa (powOk10 ifD ifB ifT ifF two three strL strL_length strL_cps fapp txt_join_signs)
open Sx (Cell sgD ceD Pairs psD inD cellsW cellsF putC allSegs whereC opD SgOk SgOk.w plOk mnOk inI sgB wrB Lo outC outC.imp inD_inj sz_in ix_ps sgB_in mid_get len_rf list_rf isSeg spots segP segP_or enum_gen fstD getD_map slice_two slice_mid slice_midR where_ne where_cons spots_cons beqL cellsW_len ix_spot eq_two neF_cells sp_cells_of enF enumD_eF sl_to sl_from)
/-- the cells have origins of segments of commits that stand -/
def OsOk (m : Sm) : Prop := ∀ c ∈ m.cells, ∀ k j i, c.2 = some (k, j, i) → k ∈ m.up ∧ j < (m.pr k).length
/-- the words of a commit, from a segment on -/
def wsP (cs : List Cell) (k : Nat) : Nat → Pairs → Pairs
  | _, [] => []
  | j, p :: r => (if p.2 ≠ p.1 ∧ (whereC cs k j p.2).isSome = true then [p] else []) ++ wsP cs k (j + 1) r
def wsU (m : Sm) : List Nat → Pairs
  | [] => []
  | k :: r => wsP m.cells k 0 (m.pr k) ++ wsU m r
def wsM (m : Sm) : Pairs := wsU m m.up
/-- one place more, all else as it was -/
def Ab (s s' : Sto) : Prop := s.length ≤ s'.length ∧ ∀ j, j < s.length → s'[j]? = s[j]?
def sp_Sheet_signs : SpD := fun ds s Q _ => ∃ (l : Nat) (m : Sm) (n : Nat) (b g : List Ent) (f : Fp), ds = [.ref l] ∧ ShU l m n b g f s ∧ m.cells.length ≤ 100000 ∧ Q (.str (strL (m.cells.map (·.1)))) s
theorem mono_Sheet_signs : MonoSp sp_Sheet_signs := fun _ _ _ _ _ _ f _ ⟨a, b, c, d, e, k, h1, h2, h3, h⟩ => ⟨a, b, c, d, e, k, h1, h2, h3, f _ _ h⟩
theorem len_Sheet_signs : ∀ ds s Q E, sp_Sheet_signs ds s Q E → ds.length = ["self"].length := fun _ _ _ _ ⟨_, _, _, _, _, _, h, _⟩ => by rw [h]; rfl
def sp_Sheet_words : SpD := fun ds s Q _ => ∃ (l : Nat) (m : Sm) (n : Nat) (b g : List Ent) (f : Fp), ds = [.ref l] ∧ (ShU l m n b g f s ∧ Bd m n b g ∧ SmOk m n) ∧ ∀ s', Ab s s' → Q (.lst ((wsM m).map segD)) s'
theorem mono_Sheet_words : MonoSp sp_Sheet_words := fun _ _ _ _ _ _ f _ ⟨a, b, c, d, e, k, h1, h2, h⟩ => ⟨a, b, c, d, e, k, h1, h2, fun s' z => f _ _ (h s' z)⟩
theorem len_Sheet_words : ∀ ds s Q E, sp_Sheet_words ds s Q E → ds.length = ["self"].length := fun _ _ _ _ ⟨_, _, _, _, _, _, h, _⟩ => by rw [h]; rfl
def b_Sheet_words : SD := (dSeq (dAsg (dNew dNil) (gN 1))
  (dSeq (dFor (iW (dFld "Sheet" "upright" (dVar 0))) (gN 2) (dFor (iEnT (dCons (dDGet (dFld "Sheet" "pair_rows" (dVar 0)) (dVar 2)) dNil)) (gTwo (gN 3) (gTs [4, 5])) (dIfS (dAnd (dTest (dBin (oF neF) (dVar 5) (dVar 4))) (dTest (dBin (oF isNotF) (dMeth noW "Sheet" "where" sp_Sheet_where [] (dVar 0) (dCons (dVar 2) (dCons (dVar 3) dNil))) (dC .non)))) (dDrop (dMt fAppend (dVar 1) (dCons (dTup (dCons (dVar 4) (dCons (dVar 5) dNil))) dNil))) dNext)))
  (dRet (dFrz (dVar 1)))))
def b_Sheet_signs : SD := (dRet (dJoin (dC (.str "")) (dLc (iW (dFld "Sheet" "cell_row" (dVar 0))) (CT.g (.many [1, 2])) dYes (dVar 1) [1, 2])))
end Su
set_option Elab.async false
set_option linter.all false
set_option autoImplicit false
set_option maxRecDepth 100000
set_option maxHeartbeats 600000
namespace Su
open PySem PySem.Spec PyProof.Rows L2 Dl Bk
open Fb (Kp Kp.app Kp.set Kp.trans Kp.refl Kp.get)
open Fi (Is Is.up Is.lt Is.app Is.set sigs)
open Tt (segD stD stateF StOk ok_of sp_is_state)
open Fa (powOk10 ifD ifB ifT ifF two three strL strL_length strL_cps fapp txt_join_signs)
open Sx (Cell sgD ceD Pairs psD inD cellsW cellsF putC allSegs whereC opD SgOk SgOk.w plOk mnOk inI sgB wrB Lo outC outC.imp inD_inj sz_in ix_ps sgB_in mid_get len_rf list_rf isSeg spots segP segP_or enum_gen fstD getD_map slice_two slice_mid slice_midR where_ne where_cons spots_cons beqL cellsW_len ix_spot eq_two neF_cells sp_cells_of enF enumD_eF sl_to sl_from)
theorem wsP_len {cs : List Cell} {k : Nat} : ∀ {ps : Pairs} {j : Nat}, (wsP cs k j ps).length ≤ ps.length
  | [], _ => Nat.le_refl _
  | p :: r, j => by
    have := wsP_len (cs := cs) (k := k) (ps := r) (j := j + 1)
    show ((if p.2 ≠ p.1 ∧ (whereC cs k j p.2).isSome = true then [p] else []) ++ wsP cs k (j + 1) r).length ≤ _
    rw [List.length_append, List.length_cons]
    split <;> simp <;> omega
theorem wsU_len {m : Sm} : ∀ {us : List Nat}, (∀ k ∈ us, (m.pr k).length ≤ 45) → (wsU m us).length ≤ 45 * us.length
  | [], _ => Nat.le_refl _
  | k :: r, h => by
    have h1 := wsU_len (m := m) (us := r) fun q hq => h q (List.mem_cons_of_mem _ hq)
    have h2 := wsP_len (cs := m.cells) (k := k) (ps := m.pr k) (j := 0)
    have h3 := h k List.mem_cons_self
    show (wsP m.cells k 0 (m.pr k) ++ wsU m r).length ≤ _
    rw [List.length_append, List.length_cons]
    omega
theorem ws_bound {m : Sm} {n : Nat} {b g : List Ent} (ok : SmOk m n) (bd : Bd m n b g) : (wsM m).length ≤ 45000 := by
  have := wsU_len (m := m) (us := m.up) fun k hk => (ok.ps k (ok.lt k hk)).2.1
  have := bd.u
  show (wsU m m.up).length ≤ _
  omega
theorem ce_two (c : Cell) : ∃ x, ceD c = .tup [sgD c.1, x] := by
  obtain ⟨a, o⟩ := c
  cases o with
  | none => exact ⟨_, rfl⟩
  | some p => exact ⟨_, rfl⟩
/-- a look at a segment that there is -/
theorem seg_good {m : Sm} {n k j : Nat} {p : Str × Str} {bad : Str → Prop} {good : Nat → Nat → Str × Str → Prop} (hk : k < n) (hj : (m.pr k)[j]? = some p) (hg : good k j p) : segC m n (inD k) (inD j) bad good :=
  ⟨(fun e => by rw [hasU_in hk] at e; cases e), fun k' e hk' => by
    cases inD_inj e
    exact ⟨(fun e => by rw [sgB_in hj] at e; cases e), fun j' p' ey hj' => by
      cases inD_inj ey
      rw [hj] at hj'
      cases hj'
      exact hg⟩⟩
section
variable (ds : List D) (s : Sto) (Q : D → Sto → Prop) (E : XD)
theorem pf_Sheet_signs (h : sp_Sheet_signs ds s Q E) : b_Sheet_signs (endsOf Q) (envD ["self", "sign", "origin"] ds) s := by
  obtain ⟨l, m, n, b, g, f, rfl, SH, hl, q⟩ := h
  have h1 := SH.c
  refine ⟨_, rfl, _, rfl, l, _, _, rfl, SH.o, rfl, _, _, isW_ref h1, le_line (by rw [List.length_map]; omega), ?_⟩
  refine lcD_pure (fun _ => true) (fun d => match d with | .tup [a, _] => a | d => d) h1 (fun d hd k1 k0 g1 g0 => ?_) ?_
  · obtain ⟨p, hp, rfl⟩ := List.mem_map.mp hd
    obtain ⟨x, ex⟩ := ce_two p
    rw [ex]
    have g1 := g1 rfl
    rw [ex] at g1
    exact ⟨_, rfl, rfl, _, rfl, g1⟩
  have e : (m.cells.map ceD).map (fun d => match d with | .tup [a, _] => a | d => d) = (m.cells.map (·.1)).map fun c => D.str ⟨#[c]⟩ := by
    rw [List.map_map, List.map_map]
    refine List.map_congr_left fun c _ => ?_
    obtain ⟨x, ex⟩ := ce_two c
    show (match ceD c with | .tup [a, _] => a | d => d) = _
    rw [ex]; rfl
  rw [List.filter_eq_self.mpr (fun _ _ => rfl), e]
  refine ⟨_, _, rfl, Fb.strs_signs _, Fb.sum_signs (by rw [List.length_map]; omega), ?_⟩
  rw [txt_join_signs]
  exact q
theorem pf_Sheet_words (hh : sp_Sheet_words ds s Q E) : b_Sheet_words (endsOf Q) (envD ["self", "found", "commit", "at", "reading", "writing"] ds) s := by
  obtain ⟨l, m, n, b, g, f, rfl, ⟨SH, BD, ok⟩, q⟩ := hh
  have hL := sizeLine_eq
  have hb := ws_bound ok BD
  have hn := BD.n
  have g0 := SH.o
  have g2 := SH.p
  have g3 := SH.u
  have up1 : ∀ j, j < s.length → (s ++ [some (MO.lst [])])[j]? = s[j]? := fun j hj => List.getElem?_append_left hj
  have upg : ∀ {s' : Sto} {j : Nat} {o : Option MO}, (∀ j, j < s.length → s'[j]? = s[j]?) → s[j]? = some o → s'[j]? = some o := fun b g => (b _ (List.getElem?_eq_some_iff.mp g).1).trans g
  refine ⟨Nat.zero_le _, ?_⟩
  refine ⟨_, rfl, l, _, _, rfl, upg up1 g0, rfl, _, _, isW_ref (upg up1 g3), ?_⟩
  refine forD_run (fun rest env s' => ∃ (r : List Nat) (acc : Pairs) (e2 e3 e4 e5 : Option D), rest = r.map inD ∧ (∀ k ∈ r, k ∈ m.up) ∧ env = [some (.ref l), some (.ref s.length), e2, e3, e4, e5] ∧ s'.length = s.length + 1 ∧ s'[s.length]? = some (some (.lst (acc.map segD))) ∧ acc ++ wsU m r = wsM m ∧ ∀ j, j < s.length → s'[j]? = s[j]?) ?_ ?_ ⟨m.up, [], none, none, none, none, rfl, fun k h => h, rfl, by simp, by simp, rfl, up1⟩
  · rintro d rest env s1 ⟨r, acc, e2, e3, e4, e5, hr, hdr, rfl, hl1, hacc, hw, hbl⟩ N hN
    cases r with
    | nil => cases hr
    | cons k r =>
    have hd := (List.cons.inj hr).1
    have hrest := (List.cons.inj hr).2
    subst hd
    have hku := hdr k List.mem_cons_self
    have hkl := ok.lt k hku
    obtain ⟨p1, p2, p3⟩ := ok.ps k hkl
    refine ⟨upg hbl g3, ?_⟩
    refine ⟨_, rfl, l, _, _, rfl, upg hbl g0, rfl, _, rfl, _, _, dictD_N (upg hbl g2), get_prs hkl, _, rfl, ?_⟩
    rw [enumD_eF]
    refine forD_run (fun rest2 env s' => ∃ (j : Nat) (r2 : Pairs) (acc2 : Pairs) (e3 e4 e5 : Option D), rest2 = enF j (r2.map segD) ∧ (m.pr k).drop j = r2 ∧ env = [some (.ref l), some (.ref s.length), some (inD k), e3, e4, e5] ∧ s'.length = s.length + 1 ∧ s'[s.length]? = some (some (.lst (acc2.map segD))) ∧ acc2 ++ wsP m.cells k j r2 = acc ++ wsP m.cells k 0 (m.pr k) ∧ ∀ j, j < s.length → s'[j]? = s[j]?) ?_ ?_ ⟨0, m.pr k, acc, _, _, _, rfl, rfl, rfl, hl1, hacc, rfl, hbl⟩
    · rintro d2 rest2 env s2 ⟨j, r2, acc2, e3, e4, e5, hr2, hdr2, rfl, hl2, hacc2, hw2, hbl2⟩ N2 hN2
      cases r2 with
      | nil => cases hr2
      | cons p r2 =>
      obtain ⟨hj, hdr2'⟩ := drop_consS hdr2
      have hr2' : d2 :: rest2 = D.tup [.int (j : Nat), segD p] :: enF (j + 1) (r2.map segD) := hr2
      have hd2 := (List.cons.inj hr2').1
      have hrest2 := (List.cons.inj hr2').2
      subst hd2
      have hjl := (List.getElem?_eq_some_iff.mp hj).1
      have hsg := p3 p (List.mem_of_getElem? hj)
      have hw2' : acc2 ++ ((if p.2 ≠ p.1 ∧ (whereC m.cells k j p.2).isSome = true then [p] else []) ++ wsP m.cells k (j + 1) r2) = acc ++ wsP m.cells k 0 (m.pr k) := hw2
      refine ⟨trivial, _, _, rfl, _, rfl, rfl, ?_⟩
      refine ⟨_, rfl, _, rfl, _, ne_ss, _, rfl, ?_⟩
      by_cases hpe : p.2 = p.1
      · rw [if_neg (fun c => c.1 hpe), List.nil_append] at hw2'
        rw [show (p.2 == p.1) = true from beq_iff_eq.mpr hpe]
        exact ifF (ifF (hN2 _ _ ⟨j + 1, r2, acc2, _, _, _, hrest2, hdr2', rfl, hl2, hacc2, hw2', hbl2⟩))
      · rw [show (p.2 == p.1) = false from beq_eq_false_iff_ne.mpr hpe]
        refine ifT ⟨_, rfl, l, _, rfl, upg hbl2 g0, rfl, _, rfl, _, rfl, l, m, n, b, g, f, inD k, inD j, rfl, ⟨ShU_below SH hbl2, BD, ok⟩, ⟨sz_in (by omega), sz_in (by omega)⟩, seg_good hkl hj ?_⟩
        cases ew : whereC m.cells k j p.2 with
        | none =>
          rw [if_neg (fun c => by rw [ew] at c; cases c.2), List.nil_append] at hw2'
          exact ⟨_, rfl, _, rfl, ifF (hN2 _ _ ⟨j + 1, r2, acc2, _, _, _, hrest2, hdr2', rfl, hl2, hacc2, hw2', hbl2⟩)⟩
        | some i =>
          rw [if_pos ⟨hpe, by rw [ew]; rfl⟩] at hw2'
          have hal : acc2.length + 1 ≤ 45000 := by
            have h1 := congrArg List.length hw2'
            have h2 := congrArg List.length hw
            have h3 : (wsU m (k :: r)).length = (wsP m.cells k 0 (m.pr k)).length + (wsU m r).length := by
              show (wsP m.cells k 0 (m.pr k) ++ wsU m r).length = _
              rw [List.length_append]
            rw [List.length_append, List.length_append, List.length_append, List.length_singleton] at h1
            rw [List.length_append] at h2
            omega
          refine ⟨_, rfl, _, rfl, ifT ⟨_, rfl, _, _, rfl, hacc2, _, rfl, _, rfl, Dl.ll, _, _, _, hacc2, fapp (by rw [List.length_map]; omega), ?_⟩⟩
          refine hN2 _ _ ⟨j + 1, r2, acc2 ++ [p], _, _, _, hrest2, hdr2', rfl, by rw [List.length_set]; exact hl2, ?_, by rw [List.append_assoc]; exact hw2', fun x hx => by rw [List.getElem?_set_ne (by omega)]; exact hbl2 x hx⟩
          rw [List.getElem?_set_self (by omega), List.map_append]; rfl
    · rintro env s2 ⟨j, r2, acc2, e3, e4, e5, hr2, hdr2, rfl, hl2, hacc2, hw2, hbl2⟩
      cases r2 with
      | cons p r2 => cases hr2
      | nil =>
      refine ⟨trivial, hN _ _ ⟨r, acc2, _, _, _, _, hrest, fun x hx => hdr x (List.mem_cons_of_mem _ hx), rfl, hl2, hacc2, ?_, hbl2⟩⟩
      have hw2 : acc2 ++ [] = acc ++ wsP m.cells k 0 (m.pr k) := hw2
      rw [List.append_nil] at hw2
      rw [hw2, List.append_assoc]
      exact hw
  · rintro env s1 ⟨r, acc, e2, e3, e4, e5, hr, hdr, rfl, hl1, hacc, hw, hbl⟩
    cases r with
    | cons k r => cases hr
    | nil =>
    have hw : acc ++ [] = wsM m := hw
    rw [List.append_nil] at hw
    subst hw
    exact ⟨upg hbl g3, _, rfl, s.length, _, rfl, hacc, q _ ⟨by rw [List.length_set]; omega, fun j hj => by rw [List.getElem?_set_ne (by omega)]; exact hbl j hj⟩⟩
end
end Su
set_option Elab.async false
set_option linter.all false
set_option autoImplicit false
set_option maxRecDepth 100000
set_option maxHeartbeats 600000
namespace Dl
open PySem PySem.Spec PyProof.Rows L2
abbrev nothD : D := .tup [.tup [], .int 0, .str ""]
def NoTh (K : PySem.W.Frag) (mg : Str → Option Value) (x : Str) : Prop :=
  ∃ (a e : Addr) (od oe : Option Addr) (na ne : Nat) (sa se : Array (Option Value)) (t1 t2 : Tok), mg x = some (.ref a) ∧ K.lookup a = some ⟨.type "tuple", od, .seq #[.ref e, .int 0 t1, .str "" t2] na, sa⟩ ∧ K.lookup e = some ⟨.type "tuple", oe, .seq #[] ne, se⟩
theorem noth_dat {K : PySem.W.Frag} {a e : Addr} {od oe : Option Addr} {na ne : Nat} {sa se : Array (Option Value)} {t1 t2 : Tok} (h1 : K.lookup a = some ⟨.type "tuple", od, .seq #[.ref e, .int 0 t1, .str "" t2] na, sa⟩) (h2 : K.lookup e = some ⟨.type "tuple", oe, .seq #[] ne, se⟩) (F : Hp) (A : List Addr) : Dat K F A nothD (.ref a) := by
  have he : Dat K F A (.tup []) (.ref e) := .tup ⟨.inr ⟨_, #[], ne, h2, rfl, rfl, Nat.zero_le _, .nil⟩, .inr (.inl rfl)⟩ .nil
  refine .tup (vs := [.ref e, .int 0, .str ""]) ⟨.inr ⟨_, _, na, h1, rfl, rfl, by rw [sizeLine_eq]; show 3 ≤ 16777216; decide, ?_⟩, .inr (.inr ⟨e, _, rfl⟩)⟩ (.cons he (.cons (.int 0) (.cons (.str "" (Nat.zero_le _)) .nil)))
  exact .cons rfl (.cons ⟨t1, rfl⟩ (.cons ⟨t2, rfl⟩ .nil))
theorem pd_noth {X : DX} {x : Str} {pos : Pos} (hg : Gl X x) (h : NoTh X.K X.mg x) (hd : (x == ("__debug__" : Str)) = false := by decide) : PD X (.Name x pos) (dC nothD) := by
  obtain ⟨a, e, od, oe, na, ne, sa, se, t1, t2, h0, h1, h2⟩ := h
  exact pd_c (pe_glob (v := .ref a) hg h0 rfl hd) (noth_dat h1 h2)
end Dl
set_option Elab.async false
set_option linter.all false
set_option autoImplicit false
set_option maxRecDepth 100000
set_option maxHeartbeats 600000
namespace Pg
open PySem PySem.Spec PyProof.Rows L2 Dl Bk Su
open Fb (Kp)
open Fi (keyF sp_is_key)
open Tt (segD stD stateF StOk sp_is_state)
open Sx (Cell sgD ceD Pairs psD inD cellsW cellsF putC allSegs whereC opD SgOk)
def readsT (segs : List (Str × Str)) (t : Str) : Str := Txt.join "" (segs.map (·.1)) ++ t
def writesT (segs : List (Str × Str)) (t : Str) : Str := Txt.join "" (segs.map (·.2)) ++ t
def one (k : Str) : Bool := ((k.length : Nat) : Int) == 1
def lettersT (ks : List Str) : Str := Txt.join "" (ks.filter one)
def hdF : List D → Str → Bool
  | .str z :: _, w => z == w
  | _, _ => false
def letF : D → Str → Int → Bool
  | .tup xs, w, n => (((xs.length : Nat) : Int) == n + 1) && hdF xs w
  | _, _, _ => false
/-- a page: its sheet, the caret, what is covered, what is composed -/
structure Pm where
  m : Sm
  n : Nat
  b : List Ent
  g : List Ent
  ca : Nat
  co : Nat
  be : Bool
  nu : Nat
  pr : List Str
  an : Nat
  sg : Pairs
  at_ : Int
  tl : Str
abbrev fl6 (a b c d e g : D) : List (Str × D) := [("site", a), ("begun", b), ("number", c), ("pressed", d), ("answered", e), ("latest", g)]
abbrev pgF (l k : Nat) (P : Pm) : List (Str × D) := fl6 (.ref (l + 1)) (.bl P.be) (inD P.nu) (.ref k) (inD P.an) (stD P.sg P.at_ P.tl)
abbrev siF (l : Nat) (P : Pm) : List (Str × D) := [("sheet", .ref (l + 2)), ("caret_at", inD P.ca), ("covered_many", inD P.co)]
structure PgAt (l k : Nat) (f : Fp) (P : Pm) (s : Sto) : Prop where
  o : s[l]? = some (some (.ins "Page" (pgF l k P)))
  t : s[l + 1]? = some (some (.ins "Site" (siF l P)))
  sh : ShU (l + 2) P.m P.n P.b P.g f s
  pk : s[k]? = some (some (.lst (P.pr.map D.str)))
  kl : l + 2 < k ∧ ¬ Own (l + 2) f k
structure PmOk (P : Pm) : Prop where
  st : StOk P.sg P.at_ P.tl
  bd : Bd P.m P.n P.b P.g
  ok : SmOk P.m P.n
  os : OsOk P.m
  an : P.an ≤ P.pr.length
  pl : P.pr.length ≤ 1000
  ks : ∀ k ∈ P.pr, k.length ≤ 8
  ca : P.ca + P.co ≤ P.m.cells.length
  full : (readsT P.sg P.tl ++ lettersT (P.pr.drop P.an)).length ≤ 40
  nu : P.nu ≤ 100000
def Pm.nil : Pm := ⟨⟨[], fun _ => [], []⟩, 0, [], [], 0, 0, false, 0, [], 0, [], 0, ""⟩
def sp_need_state : SpD := fun ds s Q E => ∃ x : D, ds = [x] ∧ szB NN x = true ∧ (stateF x = false → E "NoState" [] s) ∧ (stateF x = true → Q .non s)
theorem mono_need_state : MonoSp sp_need_state := fun _ _ _ _ _ _ f g ⟨x, h1, h2, h3, h4⟩ => ⟨x, h1, h2, fun e => g _ _ _ (h3 e), fun e => f _ _ (h4 e)⟩
theorem len_need_state : ∀ ds s Q E, sp_need_state ds s Q E → ds.length = ["thing"].length := fun _ _ _ _ ⟨_, h, _⟩ => by rw [h]; rfl
def sp_reading_of : SpD := fun ds s Q E => ∃ x : D, ds = [x] ∧ szB NN x = true ∧ (stateF x = false → E "NoState" [] s) ∧ (∀ segs i t, x = stD segs i t → StOk segs i t → Q (.str (readsT segs t)) s)
theorem mono_reading_of : MonoSp sp_reading_of := fun _ _ _ _ _ _ f g ⟨x, h1, h2, h3, h4⟩ => ⟨x, h1, h2, fun e => g _ _ _ (h3 e), fun a b c e1 e2 => f _ _ (h4 a b c e1 e2)⟩
theorem len_reading_of : ∀ ds s Q E, sp_reading_of ds s Q E → ds.length = ["state"].length := fun _ _ _ _ ⟨_, h, _⟩ => by rw [h]; rfl
def sp_text_of : SpD := fun ds s Q E => ∃ x : D, ds = [x] ∧ szB NN x = true ∧ (stateF x = false → E "NoState" [] s) ∧ (∀ segs i t, x = stD segs i t → StOk segs i t → Q (.str (writesT segs t)) s)
theorem mono_text_of : MonoSp sp_text_of := fun _ _ _ _ _ _ f g ⟨x, h1, h2, h3, h4⟩ => ⟨x, h1, h2, fun e => g _ _ _ (h3 e), fun a b c e1 e2 => f _ _ (h4 a b c e1 e2)⟩
theorem len_text_of : ∀ ds s Q E, sp_text_of ds s Q E → ds.length = ["state"].length := fun _ _ _ _ ⟨_, h, _⟩ => by rw [h]; rfl
def sp_need_key : SpD := fun ds s Q E => ∃ x : D, ds = [x] ∧ szB NN x = true ∧ (keyF x = false → E "NoKey" [] s) ∧ (keyF x = true → Q .non s)
theorem mono_need_key : MonoSp sp_need_key := fun _ _ _ _ _ _ f g ⟨x, h1, h2, h3, h4⟩ => ⟨x, h1, h2, fun e => g _ _ _ (h3 e), fun e => f _ _ (h4 e)⟩
theorem len_need_key : ∀ ds s Q E, sp_need_key ds s Q E → ds.length = ["thing"].length := fun _ _ _ _ ⟨_, h, _⟩ => by rw [h]; rfl
def sp_letters_of : SpD := fun ds s Q _ => ∃ ks : List Str, ds = [.lst (ks.map D.str)] ∧ ks.length ≤ 10000 ∧ Q (.str (lettersT ks)) s
theorem mono_letters_of : MonoSp sp_letters_of := fun _ _ _ _ _ _ f _ ⟨x, h1, h2, h⟩ => ⟨x, h1, h2, f _ _ h⟩
theorem len_letters_of : ∀ ds s Q E, sp_letters_of ds s Q E → ds.length = ["keys"].length := fun _ _ _ _ ⟨_, h, _⟩ => by rw [h]; rfl
def sp_is_letter : SpD := fun ds s Q _ => ∃ (x : D) (w : Str) (n : Int), ds = [x, .str w, .int n] ∧ szB NN x = true ∧ 0 ≤ n ∧ Q (.bl (letF x w n)) s
theorem mono_is_letter : MonoSp sp_is_letter := fun _ _ _ _ _ _ f _ ⟨x, w, n, h1, h2, h3, h⟩ => ⟨x, w, n, h1, h2, h3, f _ _ h⟩
theorem len_is_letter : ∀ ds s Q E, sp_is_letter ds s Q E → ds.length = ["thing", "word", "many"].length := fun _ _ _ _ ⟨_, _, _, h, _⟩ => by rw [h]; rfl
def sp_Site___init__ : SpD := fun ds s Q _ => ∃ s0 : Sto, ds = [.ref s0.length] ∧ s = s0 ++ [some (.ins "Site" [])] ∧ ∀ s', s'[s0.length]? = some (some (.ins "Site" [("sheet", .ref (s0.length + 1)), ("caret_at", .int 0), ("covered_many", .int 0)])) → ShU (s0.length + 1) ⟨[], fun _ => [], []⟩ 0 [] [] ⟨s0.length + 2, s0.length + 4, s0.length + 6⟩ s' → s'.length = s0.length + 7 → (∀ j, j < s0.length → s'[j]? = s0[j]?) → Q .non s'
theorem mono_Site___init__ : MonoSp sp_Site___init__ := fun _ _ _ _ _ _ f _ ⟨s0, h1, h2, h⟩ => ⟨s0, h1, h2, fun s' a1 a2 a3 a4 => f _ _ (h s' a1 a2 a3 a4)⟩
theorem len_Site___init__ : ∀ ds s Q E, sp_Site___init__ ds s Q E → ds.length = ["self"].length := fun _ _ _ _ ⟨_, h, _⟩ => by rw [h]; rfl
def sp_Page___init__ : SpD := fun ds s Q _ => ∃ s0 : Sto, ds = [.ref s0.length] ∧ s = s0 ++ [some (.ins "Page" [])] ∧ ∀ s', PgAt s0.length (s0.length + 8) ⟨s0.length + 3, s0.length + 5, s0.length + 7⟩ Pm.nil s' → s'.length = s0.length + 9 → (∀ j, j < s0.length → s'[j]? = s0[j]?) → Q .non s'
theorem mono_Page___init__ : MonoSp sp_Page___init__ := fun _ _ _ _ _ _ f _ ⟨s0, h1, h2, h⟩ => ⟨s0, h1, h2, fun s' a1 a2 a3 => f _ _ (h s' a1 a2 a3)⟩
theorem len_Page___init__ : ∀ ds s Q E, sp_Page___init__ ds s Q E → ds.length = ["self"].length := fun _ _ _ _ ⟨_, h, _⟩ => by rw [h]; rfl
def sp_Page_since : SpD := fun ds s Q _ => ∃ (l k : Nat) (f : Fp) (P : Pm), ds = [.ref l] ∧ PgAt l k f P s ∧ PmOk P ∧ Q (.str (lettersT (P.pr.drop P.an))) s
theorem mono_Page_since : MonoSp sp_Page_since := fun _ _ _ _ _ _ f _ ⟨a, b, c, d, h1, h2, h3, h⟩ => ⟨a, b, c, d, h1, h2, h3, f _ _ h⟩
theorem len_Page_since : ∀ ds s Q E, sp_Page_since ds s Q E → ds.length = ["self"].length := fun _ _ _ _ ⟨_, _, _, _, h, _⟩ => by rw [h]; rfl
def sp_Page_composed : SpD := fun ds s Q _ => ∃ (l k : Nat) (f : Fp) (P : Pm), ds = [.ref l] ∧ PgAt l k f P s ∧ Q (if P.be = true then .tup [inD P.nu, inD P.pr.length, inD P.an] else .non) s
theorem mono_Page_composed : MonoSp sp_Page_composed := fun _ _ _ _ _ _ f _ ⟨a, b, c, d, h1, h2, h⟩ => ⟨a, b, c, d, h1, h2, f _ _ h⟩
theorem len_Page_composed : ∀ ds s Q E, sp_Page_composed ds s Q E → ds.length = ["self"].length := fun _ _ _ _ ⟨_, _, _, _, h, _⟩ => by rw [h]; rfl
def sp_Page_shown : SpD := fun ds s Q _ => ∃ (l k : Nat) (f : Fp) (P : Pm), ds = [.ref l] ∧ PgAt l k f P s ∧ Q (stD P.sg P.at_ P.tl) s
theorem mono_Page_shown : MonoSp sp_Page_shown := fun _ _ _ _ _ _ f _ ⟨a, b, c, d, h1, h2, h⟩ => ⟨a, b, c, d, h1, h2, f _ _ h⟩
theorem len_Page_shown : ∀ ds s Q E, sp_Page_shown ds s Q E → ds.length = ["self"].length := fun _ _ _ _ ⟨_, _, _, _, h, _⟩ => by rw [h]; rfl
def sp_Page_text : SpD := fun ds s Q _ => ∃ (l k : Nat) (f : Fp) (P : Pm), ds = [.ref l] ∧ PgAt l k f P s ∧ PmOk P ∧ Q (.str (writesT P.sg P.tl ++ lettersT (P.pr.drop P.an))) s
theorem mono_Page_text : MonoSp sp_Page_text := fun _ _ _ _ _ _ f _ ⟨a, b, c, d, h1, h2, h3, h⟩ => ⟨a, b, c, d, h1, h2, h3, f _ _ h⟩
theorem len_Page_text : ∀ ds s Q E, sp_Page_text ds s Q E → ds.length = ["self"].length := fun _ _ _ _ ⟨_, _, _, _, h, _⟩ => by rw [h]; rfl
def sp_Page_signs : SpD := fun ds s Q _ => ∃ (l k : Nat) (f : Fp) (P : Pm), ds = [.ref l] ∧ PgAt l k f P s ∧ PmOk P ∧ Q (.str (Fa.strL (P.m.cells.map (·.1)))) s
theorem mono_Page_signs : MonoSp sp_Page_signs := fun _ _ _ _ _ _ f _ ⟨a, b, c, d, h1, h2, h3, h⟩ => ⟨a, b, c, d, h1, h2, h3, f _ _ h⟩
theorem len_Page_signs : ∀ ds s Q E, sp_Page_signs ds s Q E → ds.length = ["self"].length := fun _ _ _ _ ⟨_, _, _, _, h, _⟩ => by rw [h]; rfl
def sp_Page_caret : SpD := fun ds s Q _ => ∃ (l k : Nat) (f : Fp) (P : Pm), ds = [.ref l] ∧ PgAt l k f P s ∧ Q (inD P.ca) s
theorem mono_Page_caret : MonoSp sp_Page_caret := fun _ _ _ _ _ _ f _ ⟨a, b, c, d, h1, h2, h⟩ => ⟨a, b, c, d, h1, h2, f _ _ h⟩
theorem len_Page_caret : ∀ ds s Q E, sp_Page_caret ds s Q E → ds.length = ["self"].length := fun _ _ _ _ ⟨_, _, _, _, h, _⟩ => by rw [h]; rfl
def sp_Page_covered : SpD := fun ds s Q _ => ∃ (l k : Nat) (f : Fp) (P : Pm), ds = [.ref l] ∧ PgAt l k f P s ∧ Q (inD P.co) s
theorem mono_Page_covered : MonoSp sp_Page_covered := fun _ _ _ _ _ _ f _ ⟨a, b, c, d, h1, h2, h⟩ => ⟨a, b, c, d, h1, h2, f _ _ h⟩
theorem len_Page_covered : ∀ ds s Q E, sp_Page_covered ds s Q E → ds.length = ["self"].length := fun _ _ _ _ ⟨_, _, _, _, h, _⟩ => by rw [h]; rfl
def sp_Page_display : SpD := fun ds s Q _ => ∃ (l k : Nat) (f : Fp) (P : Pm), ds = [.ref l] ∧ PgAt l k f P s ∧ PmOk P ∧ Q (.str (Fa.strL ((P.m.cells.map (·.1)).take P.ca) ++ (writesT P.sg P.tl ++ lettersT (P.pr.drop P.an)) ++ Fa.strL ((P.m.cells.map (·.1)).drop (P.ca + P.co)))) s
theorem mono_Page_display : MonoSp sp_Page_display := fun _ _ _ _ _ _ f _ ⟨a, b, c, d, h1, h2, h3, h⟩ => ⟨a, b, c, d, h1, h2, h3, f _ _ h⟩
theorem len_Page_display : ∀ ds s Q E, sp_Page_display ds s Q E → ds.length = ["self"].length := fun _ _ _ _ ⟨_, _, _, _, h, _⟩ => by rw [h]; rfl
def sp_Page_cells : SpD := fun ds s Q _ => ∃ (l k : Nat) (f : Fp) (P : Pm), ds = [.ref l] ∧ PgAt l k f P s ∧ Q (.lst (P.m.cells.map ceD)) s
theorem mono_Page_cells : MonoSp sp_Page_cells := fun _ _ _ _ _ _ f _ ⟨a, b, c, d, h1, h2, h⟩ => ⟨a, b, c, d, h1, h2, f _ _ h⟩
theorem len_Page_cells : ∀ ds s Q E, sp_Page_cells ds s Q E → ds.length = ["self"].length := fun _ _ _ _ ⟨_, _, _, _, h, _⟩ => by rw [h]; rfl
def sp_Page_words : SpD := fun ds s Q _ => ∃ (l k : Nat) (f : Fp) (P : Pm), ds = [.ref l] ∧ PgAt l k f P s ∧ PmOk P ∧ ∀ s', Ab s s' → Q (.lst ((wsM P.m).map segD)) s'
theorem mono_Page_words : MonoSp sp_Page_words := fun _ _ _ _ _ _ f _ ⟨a, b, c, d, h1, h2, h3, h⟩ => ⟨a, b, c, d, h1, h2, h3, fun s' z => f _ _ (h s' z)⟩
theorem len_Page_words : ∀ ds s Q E, sp_Page_words ds s Q E → ds.length = ["self"].length := fun _ _ _ _ ⟨_, _, _, _, h, _⟩ => by rw [h]; rfl
def sp_Page_steps : SpD := fun ds s Q _ => ∃ (l k : Nat) (f : Fp) (P : Pm), ds = [.ref l] ∧ PgAt l k f P s ∧ Q (.tup [inD P.b.length, inD P.g.length]) s
theorem mono_Page_steps : MonoSp sp_Page_steps := fun _ _ _ _ _ _ f _ ⟨a, b, c, d, h1, h2, h⟩ => ⟨a, b, c, d, h1, h2, f _ _ h⟩
theorem len_Page_steps : ∀ ds s Q E, sp_Page_steps ds s Q E → ds.length = ["self"].length := fun _ _ _ _ ⟨_, _, _, _, h, _⟩ => by rw [h]; rfl
def sp_Page_begin : SpD := fun ds s Q _ => ∃ (l k : Nat) (f : Fp) (P : Pm) (sg : Pairs) (i : Int) (t : Str), ds = [.ref l, stD sg i t] ∧ PgAt l k f P s ∧ ∀ s', PgAt l k f { P with be := true, sg := sg, at_ := i, tl := t } s' → s'.length = s.length → (∀ j, j ≠ l → s'[j]? = s[j]?) → Q .non s'
theorem mono_Page_begin : MonoSp sp_Page_begin := fun _ _ _ _ _ _ f _ ⟨a, b, c, d, e, i, t, h1, h2, h⟩ => ⟨a, b, c, d, e, i, t, h1, h2, fun s' a1 a2 a3 => f _ _ (h s' a1 a2 a3)⟩
theorem len_Page_begin : ∀ ds s Q E, sp_Page_begin ds s Q E → ds.length = ["self", "state"].length := fun _ _ _ _ ⟨_, _, _, _, _, _, _, h, _⟩ => by rw [h]; rfl
/-- behind a key -/
def Pm.key (P : Pm) (z : Str) : Pm := if P.be = true then { P with pr := P.pr ++ [z] } else { P with be := true, sg := [], at_ := 0, tl := "", pr := P.pr ++ [z] }
def sp_Page_key : SpD := fun ds s Q E => ∃ (l k : Nat) (f : Fp) (P : Pm) (x : D), ds = [.ref l, x] ∧ PgAt l k f P s ∧ PmOk P ∧ szB NN x = true ∧ (keyF x = false → E "NoKey" [] s) ∧ ∀ z : Str, x = .str z → keyF x = true →
  (P.be = false → one z = false → Q (.lst []) s) ∧ (P.be = true → one z = true → 40 ≤ (readsT P.sg P.tl ++ lettersT (P.pr.drop P.an)).length → E "Full" [] s) ∧
  ((P.be = false → one z = true) → (P.be = true → one z = true → (readsT P.sg P.tl ++ lettersT (P.pr.drop P.an)).length < 40) → ∀ s', PgAt l k f (P.key z) s' → s'.length = s.length → (∀ j, j ≠ l → j ≠ k → s'[j]? = s[j]?) → Q (.lst [.tup [.str "key", inD P.nu, inD (P.pr.length + 1), .str z]]) s')
theorem mono_Page_key : MonoSp sp_Page_key := fun _ _ _ _ _ _ f g ⟨a, b, c, d, x, h1, h2, h3, h4, h5, h⟩ => ⟨a, b, c, d, x, h1, h2, h3, h4, fun e => g _ _ _ (h5 e), fun z e1 e2 => ⟨fun e3 e4 => f _ _ ((h z e1 e2).1 e3 e4), fun e3 e4 e5 => g _ _ _ ((h z e1 e2).2.1 e3 e4 e5), fun e3 e4 s' a1 a2 a3 => f _ _ ((h z e1 e2).2.2 e3 e4 s' a1 a2 a3)⟩⟩
theorem len_Page_key : ∀ ds s Q E, sp_Page_key ds s Q E → ds.length = ["self", "key"].length := fun _ _ _ _ ⟨_, _, _, _, _, h, _⟩ => by rw [h]; rfl
/-- whether a show is taken -/
def Pm.sees (P : Pm) (nu ks : Nat) (sg : Pairs) (t : Str) : Prop := P.be = true ∧ nu = P.nu ∧ P.an < ks ∧ ks ≤ P.pr.length ∧ (readsT sg t ++ lettersT (P.pr.drop ks)).length ≤ 40
def sp_Page_see : SpD := fun ds s Q E => ∃ (l k : Nat) (f : Fp) (P : Pm) (nu ks : Nat) (sg : Pairs) (i : Int) (t : Str), ds = [.ref l, inD nu, inD ks, stD sg i t] ∧ PgAt l k f P s ∧ PmOk P ∧ StOk sg i t ∧ (¬ P.sees nu ks sg t → Q .non s) ∧
  (P.sees nu ks sg t → ∀ s', PgAt l k f { P with an := ks, sg := sg, at_ := i, tl := t } s' → s'.length = s.length → (∀ j, j ≠ l → s'[j]? = s[j]?) → Q .non s')
theorem mono_Page_see : MonoSp sp_Page_see := fun _ _ _ _ _ _ f _ ⟨a, b, c, d, nu, ks, e, i, t, h1, h2, h3, h4, h5, h⟩ => ⟨a, b, c, d, nu, ks, e, i, t, h1, h2, h3, h4, fun z => f _ _ (h5 z), fun z s' a1 a2 a3 => f _ _ (h z s' a1 a2 a3)⟩
theorem len_Page_see : ∀ ds s Q E, sp_Page_see ds s Q E → ds.length = ["self", "number", "keys", "state"].length := fun _ _ _ _ ⟨_, _, _, _, _, _, _, _, _, h, _⟩ => by rw [h]; rfl
def b_need_state (W : WXD) : SD := (dIfS (dNot (dTest (dCall sp_is_state [] (dCons (dVar 0) dNil)))) (dRaise W "NoState") dNext)
def b_reading_of (W : WXD) : SD := (dSeq (dDrop (dCallX W sp_need_state [] (dCons (dVar 0) dNil)))
  (dRet (dBin (oF addF) (dJoin (dC (.str "")) (dLc (iW (dBin (oF idxF) (dVar 0) (dC (.int 0)))) (CT.g (.many [1, 2])) dYes (dVar 1) [1, 2])) (dBin (oF idxF) (dVar 0) (dC (.int 2))))))
def b_text_of (W : WXD) : SD := (dSeq (dDrop (dCallX W sp_need_state [] (dCons (dVar 0) dNil)))
  (dRet (dBin (oF addF) (dJoin (dC (.str "")) (dLc (iW (dBin (oF idxF) (dVar 0) (dC (.int 0)))) (CT.g (.many [1, 2])) dYes (dVar 2) [1, 2])) (dBin (oF idxF) (dVar 0) (dC (.int 2))))))
def b_need_key (W : WXD) : SD := (dIfS (dNot (dTest (dCall sp_is_key [] (dCons (dVar 0) dNil)))) (dRaise W "NoKey") dNext)
def b_letters_of : SD := (dRet (dJoin (dC (.str "")) (dLc (iW (dVar 0)) (CT.g (.one 1)) (dTest (dBin (oF eqF) (dCB lenF (dCons (dVar 1) dNil)) (dC (.int 1)))) (dVar 1) [1])))
def b_is_letter : SD := (dSeq (dIfS (dOr (dNot (dTest (dUn (isiF "tuple") (dVar 0)))) (dTest (dBin (oF neF) (dCB lenF (dCons (dVar 0) dNil)) (dBin (oF addF) (dVar 2) (dC (.int 1)))))) (dRet (dC (.bl false))) dNext)
  (dRet (dAndV (dUn (isiF "str") (dBin (oF idxF) (dVar 0) (dC (.int 0)))) (dBin (oF eqF) (dBin (oF idxF) (dVar 0) (dC (.int 0))) (dVar 1)))))
def b_Site___init__ : SD := (dSeq (dSetF "Site" "sheet" (dVar 0) (dMake "Sheet" sp_Sheet___init__))
  (dSeq (dSetF "Site" "caret_at" (dVar 0) (dC (.int 0)))
  (dSetF "Site" "covered_many" (dVar 0) (dC (.int 0)))))
def b_Page___init__ : SD := (dSeq (dSetF "Page" "site" (dVar 0) (dMake "Site" sp_Site___init__))
  (dSeq (dSetF "Page" "begun" (dVar 0) (dC (.bl false)))
  (dSeq (dSetF "Page" "number" (dVar 0) (dC (.int 0)))
  (dSeq (dSetF "Page" "pressed" (dVar 0) (dNew dNil))
  (dSeq (dSetF "Page" "answered" (dVar 0) (dC (.int 0)))
  (dSetF "Page" "latest" (dVar 0) (dC nothD)))))))
def b_Page_begin : SD := (dSeq (dSetF "Page" "begun" (dVar 0) (dC (.bl true)))
  (dSetF "Page" "latest" (dVar 0) (dVar 1)))
def b_Page_since : SD := (dRet (dCall sp_letters_of [] (dCons (dSl (dFld "Page" "pressed" (dVar 0)) (dP (dFld "Page" "answered" (dVar 0))) dNoP) dNil)))
def b_Page_key (W : WXD) : SD := (dSeq (dDrop (dCallX W sp_need_key [] (dCons (dVar 1) dNil)))
  (dSeq (dIfS (dNot (dTest (dFld "Page" "begun" (dVar 0)))) (dSeq (dIfS (dTest (dBin (oF gtBF) (dCB lenF (dCons (dVar 1) dNil)) (dC (.int 1)))) (dRet (dLst dNil)) dNext)
  (dDrop (dMeth noW "Page" "begin" sp_Page_begin [] (dVar 0) (dCons (dC nothD) dNil)))) (dIfS (dAnd (dTest (dBin (oF eqF) (dCB lenF (dCons (dVar 1) dNil)) (dC (.int 1)))) (dTest (dBin (oF geF) (dCB lenF (dCons (dBin (oF addF) (dCallX W sp_reading_of [] (dCons (dFld "Page" "latest" (dVar 0)) dNil)) (dMeth noW "Page" "since" sp_Page_since [] (dVar 0) dNil)) dNil)) (dC (.int 40))))) (dRaise W "Full") dNext))
  (dSeq (dDrop (dMt fAppend (dFld "Page" "pressed" (dVar 0)) (dCons (dVar 1) dNil)))
  (dRet (dLst (dCons (dTup (dCons (dC (.str "key")) (dCons (dFld "Page" "number" (dVar 0)) (dCons (dCB lenF (dCons (dFld "Page" "pressed" (dVar 0)) dNil)) (dCons (dVar 1) dNil))))) dNil))))))
def b_Page_see (W : WXD) : SD := (dSeq (dIfS (dOr (dNot (dTest (dFld "Page" "begun" (dVar 0)))) (dOr (dTest (dBin (oF neF) (dVar 1) (dFld "Page" "number" (dVar 0)))) (dNot (dTest (dChain (oF ltF) (oF leF) (dFld "Page" "answered" (dVar 0)) (dVar 2) (dCB lenF (dCons (dFld "Page" "pressed" (dVar 0)) dNil))))))) dRetN dNext)
  (dIfS (dTest (dBin (oF leF) (dCB lenF (dCons (dBin (oF addF) (dCallX W sp_reading_of [] (dCons (dVar 3) dNil)) (dCall sp_letters_of [] (dCons (dSl (dFld "Page" "pressed" (dVar 0)) (dP (dVar 2)) dNoP) dNil))) dNil)) (dC (.int 40)))) (dSeq (dSetF "Page" "answered" (dVar 0) (dVar 2))
  (dSetF "Page" "latest" (dVar 0) (dVar 3))) dNext))
def b_Page_composed : SD := (dRet (dIf (dTest (dFld "Page" "begun" (dVar 0))) (dTup (dCons (dFld "Page" "number" (dVar 0)) (dCons (dCB lenF (dCons (dFld "Page" "pressed" (dVar 0)) dNil)) (dCons (dFld "Page" "answered" (dVar 0)) dNil)))) (dC .non)))
def b_Page_shown : SD := (dRet (dFld "Page" "latest" (dVar 0)))
def b_Page_text : SD := (dRet (dBin (oF addF) (dCallX noW sp_text_of [] (dCons (dFld "Page" "latest" (dVar 0)) dNil)) (dMeth noW "Page" "since" sp_Page_since [] (dVar 0) dNil)))
def b_Page_signs : SD := (dRet (dMeth noW "Sheet" "signs" sp_Sheet_signs [] (dFld "Site" "sheet" (dFld "Page" "site" (dVar 0))) dNil))
def b_Page_caret : SD := (dRet (dFld "Site" "caret_at" (dFld "Page" "site" (dVar 0))))
def b_Page_covered : SD := (dRet (dFld "Site" "covered_many" (dFld "Page" "site" (dVar 0))))
def b_Page_display : SD := (dSeq (dAsg (dMeth noW "Page" "signs" sp_Page_signs [] (dVar 0) dNil) (gN 1))
  (dRet (dBin (oF addF) (dBin (oF addF) (dSl (dVar 1) dNoP (dP (dMeth noW "Page" "caret" sp_Page_caret [] (dVar 0) dNil))) (dMeth noW "Page" "text" sp_Page_text [] (dVar 0) dNil)) (dSl (dVar 1) (dP (dBin (oF addF) (dMeth noW "Page" "caret" sp_Page_caret [] (dVar 0) dNil) (dMeth noW "Page" "covered" sp_Page_covered [] (dVar 0) dNil))) dNoP))))
def b_Page_cells : SD := (dRet (dMeth noW "Sheet" "cells" sp_Sheet_cells [] (dFld "Site" "sheet" (dFld "Page" "site" (dVar 0))) dNil))
def b_Page_words : SD := (dRet (dMeth noW "Sheet" "words" sp_Sheet_words [] (dFld "Site" "sheet" (dFld "Page" "site" (dVar 0))) dNil))
def b_Page_steps : SD := (dRet (dMeth noW "Sheet" "steps" sp_Sheet_steps [] (dFld "Site" "sheet" (dFld "Page" "site" (dVar 0))) dNil))
end Pg
set_option Elab.async false
set_option linter.all false
set_option autoImplicit false
set_option maxRecDepth 100000
set_option maxHeartbeats 600000
namespace Pg
open PySem PySem.Spec PyProof.Rows L2 Dl Bk Su
open Fb (Kp)
open Fi (keyF sp_is_key namedL)
open Tt (segD stD stateF StOk Stb ok_of sp_is_state txt_join)
open Fa (ifD ifB ifT ifF strL strL_length fapp txt_join_signs)
open Sx (Cell sgD ceD Pairs psD inD cellsW cellsF putC allSegs whereC opD SgOk len_rf)
theorem seg_lens {segs : List (Str × Str)} {i : Int} {t : Str} (B : Stb segs i t) : ((segs.map (·.1)).map (·.length)).sum + (segs.map (·.1)).length * ("" : Str).length ≤ 1640 ∧ ((segs.map (·.2)).map (·.length)).sum + (segs.map (·.2)).length * ("" : Str).length ≤ 1640 := by
  have hs : ∀ f : Str × Str → Nat, (∀ p ∈ segs, f p ≤ 40) → ∀ l : List (Str × Str), (∀ p ∈ l, p ∈ segs) → (l.map f).sum ≤ 40 * l.length := by
    intro f hf l
    induction l with
    | nil => intro _; exact Nat.le_refl _
    | cons p l ih =>
      intro h
      have h1 := ih fun q hq => h q (List.mem_cons_of_mem _ hq)
      have h2 := hf p (h p List.mem_cons_self)
      rw [List.map_cons, List.sum_cons, List.length_cons]
      omega
  have h1 := hs (fun p => p.1.length) (fun p hp => (B.p p hp).1) segs fun _ h => h
  have h2 := hs (fun p => p.2.length) (fun p hp => (B.p p hp).2) segs fun _ h => h
  have hn := B.n
  rw [List.map_map, List.map_map]
  exact ⟨by show (segs.map (fun p => p.1.length)).sum + _ * 0 ≤ _; omega, by show (segs.map (fun p => p.2.length)).sum + _ * 0 ≤ _; omega⟩
theorem join_le2 {ws : List Str} (h : (ws.map (·.length)).sum + ws.length * ("" : Str).length ≤ 1640) : (Txt.join "" ws).length ≤ 1640 := by rw [txt_join]; exact Nat.le_trans (PySem.StrLaws.join_length_le "" ws) h
theorem app_len (a b : Str) : (a ++ b).length = a.length + b.length := by
  show (a.cps ++ b.cps).size = _
  rw [Array.size_append]; rfl
theorem cps_len (z : Str) : z.cps.toList.length = z.length := by simp [Str.length]
theorem ones_sum : ∀ {ks : List Str}, (∀ k ∈ ks, k.length = 1) → (ks.map (·.length)).sum = ks.length
  | [], _ => rfl
  | k :: r, h => by
    rw [List.map_cons, List.sum_cons, List.length_cons, h k List.mem_cons_self, ones_sum fun x hx => h x (List.mem_cons_of_mem _ hx)]
    omega
theorem one_len {k : Str} (h : one k = true) : k.length = 1 := by
  have h : (((k.length : Nat) : Int) == 1) = true := h
  have := beq_iff_eq.mp h
  omega
theorem one_no {k : Str} (h : one k = false) : k.length ≠ 1 := by
  have h : (((k.length : Nat) : Int) == 1) = false := h
  have := beq_eq_false_iff_ne.mp h
  omega
theorem ones_of {ks : List Str} : ∀ k ∈ ks.filter one, k.length = 1 := fun k hk => one_len (List.mem_filter.mp hk).2
theorem join_lens : ∀ (ks : List Str), (Txt.join "" ks).length = (ks.map (·.length)).sum := fun ks => by
  rw [← cps_len, Fa.txt_join_cps]
  induction ks with
  | nil => rfl
  | cons k r ih => rw [List.flatMap_cons, List.length_append, ih, cps_len, List.map_cons, List.sum_cons]
theorem letters_len (ks : List Str) : (lettersT ks).length = (ks.filter one).length := by
  unfold lettersT
  rw [join_lens, ones_sum ones_of]
theorem letters_le (ks : List Str) : (lettersT ks).length ≤ ks.length := by
  rw [letters_len]; exact List.length_filter_le _ _
theorem letters_app (ks : List Str) (z : Str) : (lettersT (ks ++ [z])).length = (lettersT ks).length + if one z = true then 1 else 0 := by
  rw [letters_len, letters_len, List.filter_append, List.length_append]
  congr 1
  by_cases h : one z = true
  · rw [if_pos h, List.filter_cons, if_pos h]; rfl
  · rw [if_neg h, List.filter_cons, if_neg h]; rfl
theorem segD_inj {p q : Str × Str} (h : segD p = segD q) : p = q := by
  obtain ⟨a, b⟩ := p
  obtain ⟨c, d⟩ := q
  have h : D.tup [.str a, .str b] = .tup [.str c, .str d] := h
  injection h with h
  injection h with h1 h2
  injection h1 with h1
  injection h2 with h2 _
  injection h2 with h2
  rw [h1, h2]
theorem segs_inj : ∀ {a b : Pairs}, a.map segD = b.map segD → a = b
  | [], [], _ => rfl
  | [], _ :: _, h => by cases h
  | _ :: _, [], h => by cases h
  | p :: a, q :: b, h => by
    rw [List.map_cons, List.map_cons] at h
    have h1 := (List.cons.inj h).1
    have h2 := (List.cons.inj h).2
    rw [segD_inj h1, segs_inj h2]
theorem stD_inj {a b : Pairs} {i j : Int} {t u : Str} (h : stD a i t = stD b j u) : a = b ∧ i = j ∧ t = u := by
  have h : D.tup [.tup (a.map segD), .int i, .str t] = .tup [.tup (b.map segD), .int j, .str u] := h
  injection h with h
  injection h with h1 h
  injection h with h2 h
  injection h with h3 _
  injection h1 with h1
  injection h2 with h2
  injection h3 with h3
  exact ⟨segs_inj h1, h2, h3⟩
theorem st_sz {a : Pairs} {i : Int} {t : Str} (h : StOk a i t) : szB NN (stD a i t) = true := by
  have B := h.b
  have hn := B.n
  have hB : 1000000000000 ≤ big := (by decide)
  refine szB_mono (n := 1000) (by decide) _ (sz_tup.mpr ⟨Nat.le_of_ble_eq_true rfl, fun x hx => ?_⟩)
  simp only [List.mem_cons, List.not_mem_nil, or_false] at hx
  rcases hx with rfl | rfl | rfl
  · refine sz_tup.mpr ⟨by rw [List.length_map]; omega, fun y hy => ?_⟩
    obtain ⟨p, hp, rfl⟩ := List.mem_map.mp hy
    obtain ⟨p1, p2⟩ := B.p p hp
    refine sz_tup.mpr ⟨Nat.le_of_ble_eq_true rfl, fun z hz => ?_⟩
    simp only [List.mem_cons, List.not_mem_nil, or_false] at hz
    rcases hz with rfl | rfl
    · exact sz_str.mpr (by omega)
    · exact sz_str.mpr (by omega)
  · have h1 := h.i0
    have h2 := h.at_
    exact sz_int.mpr (by split at h2 <;> omega)
  · exact sz_str.mpr (by have := B.t; omega)
theorem key_len {z : Str} (h : keyF (.str z) = true) : 1 ≤ z.length ∧ z.length ≤ 8 := by
  have h : (decide (z ∈ namedL) || (sgnIn "abcdefghijklmnopqrstuvwxyz" z && (decide (1 ≤ (z.length : Int)) && decide ((z.length : Int) ≤ 1)))) = true := h
  rcases (Bool.or_eq_true _ _).mp h with h | h
  · have h := of_decide_eq_true h
    have : z = "rub" ∨ z = "turn" ∨ z = "next" ∨ z = "back" ∨ z = "left" ∨ z = "right" ∨ z = "wider" ∨ z = "narrower" ∨ z = "plain" := by simpa [namedL] using h
    rcases this with rfl | rfl | rfl | rfl | rfl | rfl | rfl | rfl | rfl <;> exact ⟨by decide, by decide⟩
  · simp only [Bool.and_eq_true, decide_eq_true_iff] at h
    omega
theorem ix_t0 {s : Sto} {d : D} {xs : List D} : idxF s (.tup (d :: xs)) (.int 0) = some d := by
  show atI (d :: xs) 0 = some d
  rw [atI_in (by decide) (by simp)]; rfl
theorem set_b {a b c d e g x : D} : putD "begun" x (fl6 a b c d e g) = fl6 a x c d e g := by rw [putD, if_neg (by decide)]; rw [putD, if_pos rfl]
theorem set_a {a b c d e g x : D} : putD "answered" x (fl6 a b c d e g) = fl6 a b c d x g := by rw [putD, if_neg (by decide)]; rw [putD, if_neg (by decide)]; rw [putD, if_neg (by decide)]; rw [putD, if_neg (by decide)]; rw [putD, if_pos rfl]
theorem set_l {a b c d e g x : D} : putD "latest" x (fl6 a b c d e g) = fl6 a b c d e x := by rw [putD, if_neg (by decide)]; rw [putD, if_neg (by decide)]; rw [putD, if_neg (by decide)]; rw [putD, if_neg (by decide)]; rw [putD, if_neg (by decide)]; rw [putD, if_pos rfl]
theorem own_l {l : Nat} {f : Fp} {k : Nat} {s : Sto} {P : Pm} (G : PgAt l k f P s) : ¬ Own (l + 2) f l ∧ ¬ Own (l + 2) f (l + 1) := by
  obtain ⟨_, _, _, a2, u2, q2⟩ := G.sh.ok
  unfold Own
  omega
/-- the page's own place and the keys' alone are otherwise -/
theorem PgAt.to {l k : Nat} {f : Fp} {P P' : Pm} {s s' : Sto} (G : PgAt l k f P s) (keep : ∀ j, j ≠ l → j ≠ k → s'[j]? = s[j]?) (e : P'.m = P.m ∧ P'.n = P.n ∧ P'.b = P.b ∧ P'.g = P.g ∧ P'.ca = P.ca ∧ P'.co = P.co) (o : s'[l]? = some (some (.ins "Page" (pgF l k P')))) (pk : s'[k]? = some (some (.lst (P'.pr.map D.str)))) : PgAt l k f P' s' := by
  obtain ⟨e1, e2, e3, e4, e5, e6⟩ := e
  have ol := own_l G
  refine ⟨o, ?_, ?_, pk, G.kl⟩
  · rw [keep _ (by omega) (by have := G.kl.1; omega)]
    have := G.t
    unfold siF at this ⊢
    rw [e5, e6]; exact this
  · rw [e1, e2, e3, e4]
    exact ShU_own G.sh fun j hj => keep j (fun e => ol.1 (e ▸ hj)) fun e => G.kl.2 (e ▸ hj)
theorem PgAt.ab {l k : Nat} {f : Fp} {P : Pm} {s s' : Sto} (G : PgAt l k f P s) (b : ∀ j, j < s.length → s'[j]? = s[j]?) : PgAt l k f P s' :=
  have up : ∀ {j : Nat} {o : Option MO}, s[j]? = some o → s'[j]? = some o := fun {j o} g => (b j (List.getElem?_eq_some_iff.mp g).1).trans g
  ⟨up G.o, up G.t, ShU_below G.sh b, up G.pk, G.kl⟩
theorem PgAt.at_ {l k : Nat} {f : Fp} {P : Pm} {s s' : Sto} (G : PgAt l k f P s) (keep : ∀ j, j = l ∨ j = l + 1 ∨ j = k ∨ Own (l + 2) f j → s'[j]? = s[j]?) : PgAt l k f P s' :=
  ⟨(keep l (.inl rfl)).trans G.o, (keep (l + 1) (.inr (.inl rfl))).trans G.t, ShU_own G.sh fun j hj => keep j (.inr (.inr (.inr hj))), (keep k (.inr (.inr (.inl rfl)))).trans G.pk, G.kl⟩
theorem sliceR {s : Sto} {k a : Nat} {ks : List Str} (h : s[k]? = some (some (.lst (ks.map D.str)))) : sliceF s (.ref k) (some (a : Nat)) none = some (.lst ((ks.drop a).map D.str)) := by
  show (seqL s (.ref k)).map (fun xs => D.lst (cutD xs (some (a : Nat)) none)) = _
  rw [seqL_ref h]
  show some (D.lst (cutD (ks.map D.str) (some (a : Nat)) none)) = _
  rw [cutD_from (by omega), Int.toNat_natCast, List.map_drop]
theorem sl_to {s : Sto} {cs : List Nat} {a : Nat} : sliceF s (.str (strL cs)) none (some (a : Nat)) = some (.str (strL (cs.take a))) := by
  show some (D.str ⟨(cutD (strL cs).cps.toList none (some (a : Nat))).toArray⟩) = _
  rw [Fa.strL_cps, cutD_to (by omega), Int.toNat_natCast]; rfl
theorem sl_from {s : Sto} {cs : List Nat} {a b : Nat} : sliceF s (.str (strL cs)) (some ((a : Nat) + (b : Nat) : Int)) none = some (.str (strL (cs.drop (a + b)))) := by
  show some (D.str ⟨(cutD (strL cs).cps.toList (some ((a : Nat) + (b : Nat) : Int)) none).toArray⟩) = _
  rw [Fa.strL_cps, cutD_from (by omega), show ((a : Nat) + (b : Nat) : Int).toNat = a + b by omega]; rfl
section
variable (ds : List D) (s : Sto) (Q : D → Sto → Prop) (E : XD)
theorem pf_need_state (h : sp_need_state ds s Q E) : b_need_state (fun y fs _ s' => E y fs s') (endsOf Q) (envD ["thing"] ds) s := by
  obtain ⟨x, rfl, hx, hn, hy⟩ := h
  refine ⟨_, rfl, x, rfl, hx, _, rfl, ?_⟩
  cases e : stateF x with
  | false => exact hn e
  | true => exact hy e
theorem pf_need_key (h : sp_need_key ds s Q E) : b_need_key (fun y fs _ s' => E y fs s') (endsOf Q) (envD ["thing"] ds) s := by
  obtain ⟨x, rfl, hx, hn, hy⟩ := h
  refine ⟨_, rfl, x, rfl, hx, _, rfl, ?_⟩
  cases e : keyF x with
  | false => exact hn e
  | true => exact hy e
theorem pf_reading_of (h : sp_reading_of ds s Q E) : b_reading_of (fun y fs _ s' => E y fs s') (endsOf Q) (envD ["state", "reading", "writing"] ds) s := by
  obtain ⟨x, rfl, hx, hn, hy⟩ := h
  refine ⟨_, rfl, x, rfl, hx, hn, fun e => ?_⟩
  obtain ⟨segs, i, t, rfl, ok⟩ := ok_of e
  obtain ⟨l1, l2⟩ := seg_lens ok.b
  have hL := sizeLine_eq
  refine ⟨_, rfl, _, rfl, _, rfl, _, _, isW_tup, le_line (by rw [List.length_map]; have := ok.b.n; omega), ?_⟩
  refine lcD_pure (fun _ => true) (fun d => match d with | .tup [a, _] => a | d => d) trivial (fun d hd k1 k0 h1 h0 => ?_) ?_
  · obtain ⟨p, hp, rfl⟩ := List.mem_map.mp hd
    exact ⟨_, rfl, rfl, _, rfl, h1 rfl⟩
  rw [List.filter_eq_self.mpr (fun _ _ => rfl), show (segs.map segD).map (fun d => match d with | .tup [a, _] => a | d => d) = (segs.map (·.1)).map D.str by rw [List.map_map, List.map_map]; rfl]
  refine ⟨_, _, rfl, strsOf_map _, by omega, ?_⟩
  have := join_le2 l1
  have := ok.b.t
  exact ⟨_, rfl, _, rfl, _, adds (by omega), hy segs i t rfl ok⟩
theorem pf_text_of (h : sp_text_of ds s Q E) : b_text_of (fun y fs _ s' => E y fs s') (endsOf Q) (envD ["state", "reading", "writing"] ds) s := by
  obtain ⟨x, rfl, hx, hn, hy⟩ := h
  refine ⟨_, rfl, x, rfl, hx, hn, fun e => ?_⟩
  obtain ⟨segs, i, t, rfl, ok⟩ := ok_of e
  obtain ⟨l1, l2⟩ := seg_lens ok.b
  have hL := sizeLine_eq
  refine ⟨_, rfl, _, rfl, _, rfl, _, _, isW_tup, le_line (by rw [List.length_map]; have := ok.b.n; omega), ?_⟩
  refine lcD_pure (fun _ => true) (fun d => match d with | .tup [_, b] => b | d => d) trivial (fun d hd k1 k0 h1 h0 => ?_) ?_
  · obtain ⟨p, hp, rfl⟩ := List.mem_map.mp hd
    exact ⟨_, rfl, rfl, _, rfl, h1 rfl⟩
  rw [List.filter_eq_self.mpr (fun _ _ => rfl), show (segs.map segD).map (fun d => match d with | .tup [_, b] => b | d => d) = (segs.map (·.2)).map D.str by rw [List.map_map, List.map_map]; rfl]
  refine ⟨_, _, rfl, strsOf_map _, by omega, ?_⟩
  have := join_le2 l2
  have := ok.b.t
  exact ⟨_, rfl, _, rfl, _, adds (by omega), hy segs i t rfl ok⟩
theorem pf_letters_of (h : sp_letters_of ds s Q E) : b_letters_of (endsOf Q) (envD ["keys", "key"] ds) s := by
  obtain ⟨ks, rfl, hl, q⟩ := h
  refine ⟨_, rfl, _, rfl, _, _, isW_lst, le_line (by rw [List.length_map]; omega), ?_⟩
  refine lcD_pure (fun d => match d with | .str k => one k | _ => false) (fun d => d) trivial (fun d hd k1 k0 h1 h0 => ?_) ?_
  · obtain ⟨k, hk, rfl⟩ := List.mem_map.mp hd
    refine ⟨_, rfl, _, rfl, _, eq_ii, _, rfl, ifB (fun e => ⟨_, rfl, h1 e⟩) fun e => h0 e⟩
  have e : ((ks.map D.str).filter (fun d => match d with | .str k => one k | _ => false)).map (fun d => d) = (ks.filter one).map D.str := by
    rw [List.filter_map, List.map_id']; rfl
  rw [e]
  refine ⟨_, _, rfl, strsOf_map _, ?_, q⟩
  rw [ones_sum ones_of]
  have := List.length_filter_le one ks
  show (ks.filter one).length + _ * 0 ≤ _
  omega
theorem pf_is_letter (h : sp_is_letter ds s Q E) : b_is_letter (endsOf Q) (envD ["thing", "word", "many"] ds) s := by
  obtain ⟨x, w, n, rfl, hx, hn, q⟩ := h
  cases x with
  | tup xs =>
    refine ⟨_, rfl, _, rfl, _, rfl, ifF ⟨_, rfl, _, rfl, _, rfl, _, rfl, _, ne_ii, _, rfl, ?_⟩⟩
    have e : letF (.tup xs) w n = ((((xs.length : Nat) : Int) == n + 1) && hdF xs w) := rfl
    rw [e] at q
    cases hl : (((xs.length : Nat) : Int) == n + 1) with
    | false =>
      rw [hl, Bool.false_and] at q
      exact ifT q
    | true =>
      rw [hl, Bool.true_and] at q
      refine ifF ?_
      cases xs with
      | nil =>
        have := beq_iff_eq.mp hl
        have e0 : (([] : List D).length : Nat) = 0 := rfl
        omega
      | cons d r =>
        have hd : szB NN d = true := (sz_tup.mp hx).2 d List.mem_cons_self
        refine ⟨_, rfl, _, ix_t0, ?_⟩
        cases d with
        | str z => exact ⟨_, rfl, _, rfl, ifT ⟨_, rfl, _, ix_t0, _, rfl, _, eq_ss, q⟩⟩
        | frl _ => cases hd
        | ref _ => cases hd
        | exc _ _ _ => cases hd
        | _ => exact ⟨_, rfl, _, rfl, ifF q⟩
  | frl _ => cases hx
  | ref _ => cases hx
  | exc _ _ _ => cases hx
  | _ => exact ⟨_, rfl, _, rfl, _, rfl, ifT q⟩
theorem pf_Page_since (h : sp_Page_since ds s Q E) : b_Page_since (endsOf Q) (envD ["self"] ds) s := by
  obtain ⟨l, k, f, P, rfl, G, ok, q⟩ := h
  refine ⟨_, rfl, l, _, _, rfl, G.o, rfl, _, rfl, l, _, _, rfl, G.o, rfl, _, rfl, _, sliceR G.pk, ?_⟩
  dsimp only [dNil, dCons, dC]
  exact ⟨P.pr.drop P.an, rfl, by rw [List.length_drop]; have := ok.pl; omega, q⟩
theorem pf_Page_composed (h : sp_Page_composed ds s Q E) : b_Page_composed (endsOf Q) (envD ["self"] ds) s := by
  obtain ⟨l, k, f, P, rfl, G, q⟩ := h
  refine ⟨_, rfl, l, _, _, rfl, G.o, rfl, _, rfl, ?_⟩
  cases hb : P.be with
  | true =>
    rw [hb, if_pos rfl] at q
    exact ifT ⟨_, rfl, l, _, _, rfl, G.o, rfl, _, rfl, l, _, _, rfl, G.o, rfl, _, by rw [len_rf G.pk, List.length_map]; rfl, _, rfl, l, _, _, rfl, G.o, rfl, Dl.ll, q⟩
  | false =>
    rw [hb, if_neg (by decide)] at q
    exact ifF q
theorem pf_Page_shown (h : sp_Page_shown ds s Q E) : b_Page_shown (endsOf Q) (envD ["self"] ds) s := by
  obtain ⟨l, k, f, P, rfl, G, q⟩ := h
  exact ⟨_, rfl, l, _, _, rfl, G.o, rfl, q⟩
theorem pf_Page_text (h : sp_Page_text ds s Q E) : b_Page_text (endsOf Q) (envD ["self"] ds) s := by
  obtain ⟨l, k, f, P, rfl, G, ok, q⟩ := h
  have hL := sizeLine_eq
  obtain ⟨l1, l2⟩ := seg_lens ok.st.b
  have h1 := join_le2 l2
  have h2 := ok.st.b.t
  have h3 := letters_le (P.pr.drop P.an)
  have h4 := ok.pl
  refine ⟨_, rfl, l, _, _, rfl, G.o, rfl, stD P.sg P.at_ P.tl, rfl, st_sz ok.st, (fun e => by rw [ok.st.st] at e; cases e), fun segs i t e _ => ?_⟩
  obtain ⟨rfl, rfl, rfl⟩ := stD_inj e
  refine ⟨_, rfl, l, _, rfl, G.o, rfl, l, k, f, P, rfl, G, ok, _, adds ?_, q⟩
  rw [List.length_drop] at h3
  show (writesT P.sg P.tl).length + _ ≤ _
  unfold writesT
  rw [app_len]
  omega
theorem pf_Page_signs (h : sp_Page_signs ds s Q E) : b_Page_signs (endsOf Q) (envD ["self"] ds) s := by
  obtain ⟨l, k, f, P, rfl, G, ok, q⟩ := h
  exact ⟨_, rfl, l, _, _, rfl, G.o, rfl, l + 1, _, _, rfl, G.t, rfl, l + 2, _, rfl, G.sh.o, rfl, l + 2, P.m, P.n, P.b, P.g, f, rfl, G.sh, by have := ok.bd.c; omega, q⟩
theorem pf_Page_caret (h : sp_Page_caret ds s Q E) : b_Page_caret (endsOf Q) (envD ["self"] ds) s := by
  obtain ⟨l, k, f, P, rfl, G, q⟩ := h
  exact ⟨_, rfl, l, _, _, rfl, G.o, rfl, l + 1, _, _, rfl, G.t, rfl, q⟩
theorem pf_Page_covered (h : sp_Page_covered ds s Q E) : b_Page_covered (endsOf Q) (envD ["self"] ds) s := by
  obtain ⟨l, k, f, P, rfl, G, q⟩ := h
  exact ⟨_, rfl, l, _, _, rfl, G.o, rfl, l + 1, _, _, rfl, G.t, rfl, q⟩
theorem pf_Page_cells (h : sp_Page_cells ds s Q E) : b_Page_cells (endsOf Q) (envD ["self"] ds) s := by
  obtain ⟨l, k, f, P, rfl, G, q⟩ := h
  exact ⟨_, rfl, l, _, _, rfl, G.o, rfl, l + 1, _, _, rfl, G.t, rfl, l + 2, _, rfl, G.sh.o, rfl, l + 2, P.m, P.n, P.b, P.g, f, rfl, G.sh, q⟩
theorem pf_Page_words (h : sp_Page_words ds s Q E) : b_Page_words (endsOf Q) (envD ["self"] ds) s := by
  obtain ⟨l, k, f, P, rfl, G, ok, q⟩ := h
  exact ⟨_, rfl, l, _, _, rfl, G.o, rfl, l + 1, _, _, rfl, G.t, rfl, l + 2, _, rfl, G.sh.o, rfl, l + 2, P.m, P.n, P.b, P.g, f, rfl, ⟨G.sh, ok.bd, ok.ok⟩, q⟩
theorem pf_Page_steps (h : sp_Page_steps ds s Q E) : b_Page_steps (endsOf Q) (envD ["self"] ds) s := by
  obtain ⟨l, k, f, P, rfl, G, q⟩ := h
  exact ⟨_, rfl, l, _, _, rfl, G.o, rfl, l + 1, _, _, rfl, G.t, rfl, l + 2, _, rfl, G.sh.o, rfl, l + 2, P.m, P.n, P.b, P.g, f, rfl, G.sh, q⟩
theorem pf_Page_display (h : sp_Page_display ds s Q E) : b_Page_display (endsOf Q) (envD ["self", "signs"] ds) s := by
  obtain ⟨l, k, f, P, rfl, G, ok, q⟩ := h
  have hL := sizeLine_eq
  obtain ⟨l1, l2⟩ := seg_lens ok.st.b
  have h1 := join_le2 l2
  have h2 := ok.st.b.t
  have h3 := letters_le (P.pr.drop P.an)
  have h4 := ok.pl
  have h5 := ok.bd.c
  rw [List.length_drop] at h3
  have ht : (writesT P.sg P.tl ++ lettersT (P.pr.drop P.an)).length ≤ 5000 := by
    rw [app_len]
    unfold writesT
    rw [app_len]
    omega
  have e1 : ∀ n : Nat, (strL ((P.m.cells.map (·.1)).take n)).length ≤ 50000 := fun n => by rw [strL_length, List.length_take, List.length_map]; omega
  have e2 : ∀ n : Nat, (strL ((P.m.cells.map (·.1)).drop n)).length ≤ 50000 := fun n => by rw [strL_length, List.length_drop, List.length_map]; omega
  refine ⟨_, rfl, l, _, rfl, G.o, rfl, l, k, f, P, rfl, G, ok, ?_⟩
  refine ⟨_, rfl, _, rfl, l, _, rfl, G.o, rfl, l, k, f, P, rfl, G, _, rfl, _, sl_to, ?_⟩
  refine ⟨_, rfl, l, _, rfl, G.o, rfl, l, k, f, P, rfl, G, ok, _, adds (by have := e1 P.ca; omega), ?_⟩
  refine ⟨_, rfl, _, rfl, l, _, rfl, G.o, rfl, l, k, f, P, rfl, G, _, rfl, l, _, rfl, G.o, rfl, l, k, f, P, rfl, G, _, rfl, _, rfl, _, sl_from, ?_⟩
  exact ⟨_, adds (by rw [app_len]; have := e1 P.ca; have := e2 (P.ca + P.co); omega), q⟩
end
end Pg
set_option Elab.async false
set_option linter.all false
set_option autoImplicit false
set_option maxRecDepth 100000
set_option maxHeartbeats 600000
namespace Pg
open PySem PySem.Spec PyProof.Rows L2 Dl Bk Su
open Fb (Kp)
open Fi (keyF sp_is_key namedL)
open Tt (segD stD stateF StOk Stb ok_of sp_is_state txt_join)
open Fa (ifD ifB ifT ifF strL strL_length fapp txt_join_signs)
open Sx (Cell sgD ceD Pairs psD inD cellsW cellsF putC allSegs whereC opD SgOk len_rf)
theorem g_set {s : Sto} {l : Nat} {o : Option MO} (h : l < s.length) : (s.set l o)[l]? = some o := List.getElem?_set_self h
section
variable (ds : List D) (s : Sto) (Q : D → Sto → Prop) (E : XD)
theorem pf_Page_begin (h : sp_Page_begin ds s Q E) : b_Page_begin (endsOf Q) (envD ["self", "state"] ds) s := by
  obtain ⟨l, k, f, P, sg, i, t, rfl, G, q⟩ := h
  have hl := (List.getElem?_eq_some_iff.mp G.o).1
  have hlk : k ≠ l := by have := G.kl.1; omega
  refine ⟨_, rfl, l, _, rfl, G.o, (by show 6 < 1000; decide), ?_⟩
  rw [set_b]
  have o1 := g_set (s := s) (o := some (.ins "Page" (fl6 (.ref (l + 1)) (.bl true) (inD P.nu) (.ref k) (inD P.an) (stD P.sg P.at_ P.tl)))) hl
  refine ⟨_, rfl, _, rfl, l, _, rfl, o1, (by show 6 < 1000; decide), ?_⟩
  rw [set_l, List.set_set]
  refine q _ (G.to (fun j h1 h2 => List.getElem?_set_ne (Ne.symm h1)) ⟨rfl, rfl, rfl, rfl, rfl, rfl⟩ (g_set hl) ?_) List.length_set fun j hj => List.getElem?_set_ne (Ne.symm hj)
  rw [List.getElem?_set_ne (Ne.symm hlk)]; exact G.pk
theorem key_tail {l k : Nat} {f : Fp} {P P0 : Pm} {s0 : Sto} {z : Str} (G : PgAt l k f P s) (hp : P.pr.length ≤ 1000) (hk : P.key z = P0.key z) (hb : P.be = true) (hnu : P.nu = P0.nu) (hpr : P.pr = P0.pr) (hl : s.length = s0.length) (keep : ∀ j, j ≠ l → s[j]? = s0[j]?)
    (q : ∀ s', PgAt l k f (P0.key z) s' → s'.length = s0.length → (∀ j, j ≠ l → j ≠ k → s'[j]? = s0[j]?) → Q (.lst [.tup [.str "key", inD P0.nu, inD (P0.pr.length + 1), .str z]]) s') :
    (dSeq (dDrop (dMt fAppend (dFld "Page" "pressed" (dVar 0)) (dCons (dVar 1) dNil)))
  (dRet (dLst (dCons (dTup (dCons (dC (.str "key")) (dCons (dFld "Page" "number" (dVar 0)) (dCons (dCB lenF (dCons (dFld "Page" "pressed" (dVar 0)) dNil)) (dCons (dVar 1) dNil))))) dNil)))) (endsOf Q) [some (.ref l), some (.str z)] s := by
  have hL := sizeLine_eq
  have kl := (List.getElem?_eq_some_iff.mp G.pk).1
  have hlk : k ≠ l := by have := G.kl.1; omega
  refine ⟨_, rfl, l, _, _, rfl, G.o, rfl, k, _, rfl, G.pk, _, rfl, _, _, _, G.pk, fapp (by rw [List.length_map]; omega), ?_⟩
  have e1 : P.pr.map D.str ++ [D.str z] = (P.pr ++ [z]).map D.str := by rw [List.map_append]; rfl
  rw [e1]
  have o1 : (s.set k (some (.lst ((P.pr ++ [z]).map D.str))))[l]? = some (some (.ins "Page" (pgF l k P))) := by rw [List.getElem?_set_ne hlk]; exact G.o
  have p1 := g_set (s := s) (o := some (.lst ((P.pr ++ [z]).map D.str))) kl
  have ek : P.key z = { P with pr := P.pr ++ [z] } := by unfold Pm.key; rw [if_pos hb]
  refine ⟨_, rfl, l, _, _, rfl, o1, rfl, _, rfl, l, _, _, rfl, o1, rfl, _, len_rf p1, _, rfl, Dl.ll, Dl.ll, ?_⟩
  have ev : (D.lst [.tup [.str "key", inD P.nu, .int (((P.pr ++ [z]).map D.str).length : Nat), .str z]]) = .lst [.tup [.str "key", inD P0.nu, inD (P0.pr.length + 1), .str z]] := by
    rw [List.length_map, List.length_append, hnu, hpr]; rfl
  show Q (D.lst [.tup [.str "key", inD P.nu, .int (((P.pr ++ [z]).map D.str).length : Nat), .str z]]) _
  rw [ev]
  refine q _ ?_ (by rw [List.length_set]; exact hl) fun j h1 h2 => by rw [List.getElem?_set_ne (Ne.symm h2)]; exact keep j h1
  rw [← hk, ek]
  exact G.to (P' := { P with pr := P.pr ++ [z] }) (fun j h1 h2 => List.getElem?_set_ne (Ne.symm h2)) ⟨rfl, rfl, rfl, rfl, rfl, rfl⟩ o1 p1
theorem pf_Page_key (h : sp_Page_key ds s Q E) : b_Page_key (fun y fs _ s' => E y fs s') (endsOf Q) (envD ["self", "key"] ds) s := by
  obtain ⟨l, k, f, P, x, rfl, G, ok, zx, b1, q⟩ := h
  have hL := sizeLine_eq
  refine ⟨_, rfl, x, rfl, zx, b1, fun e => ?_⟩
  obtain ⟨z, rfl⟩ : ∃ z, x = .str z := by
    cases x with
    | str z => exact ⟨z, rfl⟩
    | _ => cases e
  obtain ⟨q1, q2, q3⟩ := q z rfl e
  obtain ⟨z1, z8⟩ := key_len e
  refine ⟨_, rfl, l, _, _, rfl, G.o, rfl, _, rfl, ?_⟩
  cases hb : P.be with
  | false =>
    refine ifT ⟨_, rfl, _, rfl, _, rfl, _, rfl, ifD (fun h => ?_) fun h => ?_⟩
    · have h : (1 : Int) < ((z.length : Nat) : Int) := h
      have ho : one z = false := beq_eq_false_iff_ne.mpr (by omega)
      exact ⟨Dl.ll, q1 hb ho⟩
    · have h : ¬ (1 : Int) < ((z.length : Nat) : Int) := h
      have ho : one z = true := beq_iff_eq.mpr (by omega)
      dsimp only [dNext]
      refine ⟨_, rfl, l, _, rfl, G.o, rfl, l, k, f, P, [], 0, "", rfl, G, fun s1 G1 l1 k1 => ?_⟩
      refine key_tail (P0 := P) (s0 := s) s1 Q G1 ok.pl ?_ rfl rfl rfl l1 k1 (q3 (fun _ => ho) fun h => by rw [hb] at h; cases h)
      unfold Pm.key
      rw [if_pos rfl, hb, if_neg (by decide)]
  | true =>
    have rest : (dSeq (dDrop (dMt fAppend (dFld "Page" "pressed" (dVar 0)) (dCons (dVar 1) dNil)))
  (dRet (dLst (dCons (dTup (dCons (dC (.str "key")) (dCons (dFld "Page" "number" (dVar 0)) (dCons (dCB lenF (dCons (dFld "Page" "pressed" (dVar 0)) dNil)) (dCons (dVar 1) dNil))))) dNil)))) (endsOf Q) [some (.ref l), some (.str z)] s ∨ (one z = true ∧ 40 ≤ (readsT P.sg P.tl ++ lettersT (P.pr.drop P.an)).length) := by
      by_cases hf : one z = true ∧ 40 ≤ (readsT P.sg P.tl ++ lettersT (P.pr.drop P.an)).length
      · exact .inr hf
      · exact .inl (key_tail (P0 := P) (s0 := s) s Q G ok.pl rfl hb rfl rfl rfl (fun _ _ => rfl) (q3 (fun h => by rw [hb] at h; cases h) fun _ ho => by
          have : ¬ 40 ≤ (readsT P.sg P.tl ++ lettersT (P.pr.drop P.an)).length := fun h => hf ⟨ho, h⟩
          omega))
    have hlen := ok.full
    rw [app_len] at hlen
    refine ifF ⟨_, rfl, _, rfl, _, eq_ii, _, rfl, ifB (fun ho => ?_) fun ho => ?_⟩
    · refine ⟨_, rfl, l, _, _, rfl, G.o, rfl, stD P.sg P.at_ P.tl, rfl, st_sz ok.st, (fun e => by rw [ok.st.st] at e; cases e), fun segs i t e _ => ?_⟩
      obtain ⟨rfl, rfl, rfl⟩ := stD_inj e
      refine ⟨_, rfl, l, _, rfl, G.o, rfl, l, k, f, P, rfl, G, ok, _, adds (by omega), _, rfl, _, rfl, _, rfl, ifD (fun h => ?_) fun h => ?_⟩
      · have h : (40 : Int) ≤ (((readsT P.sg P.tl ++ lettersT (P.pr.drop P.an)).length : Nat) : Int) := h
        exact q2 hb ho (by omega)
      · have h : ¬ (40 : Int) ≤ (((readsT P.sg P.tl ++ lettersT (P.pr.drop P.an)).length : Nat) : Int) := h
        dsimp only [dNext]
        rcases rest with r | r
        · exact r
        · exact absurd r.2 (by omega)
    · dsimp only [dNext]
      rcases rest with r | r
      · exact ifF r
      · have ho : one z = false := ho
        rw [ho] at r
        cases r.1
theorem pf_Page_see (h : sp_Page_see ds s Q E) : b_Page_see (fun y fs _ s' => E y fs s') (endsOf Q) (envD ["self", "number", "keys", "state"] ds) s := by
  obtain ⟨l, k, f, P, nu, ks, sg, i, t, rfl, G, ok, st, q0, q⟩ := h
  have hL := sizeLine_eq
  have hl := (List.getElem?_eq_some_iff.mp G.o).1
  have hlk : k ≠ l := by have := G.kl.1; omega
  refine ⟨_, rfl, l, _, _, rfl, G.o, rfl, _, rfl, ?_⟩
  cases hb : P.be with
  | false => exact ifT (ifT (q0 fun h => by have h := h.1; rw [hb] at h; cases h))
  | true =>
  refine ifF ⟨_, rfl, _, rfl, l, _, _, rfl, G.o, rfl, _, ne_ii, _, rfl, ?_⟩
  by_cases hn : nu = P.nu
  case neg =>
    rw [show (((nu : Nat) : Int) == ((P.nu : Nat) : Int)) = false from beq_eq_false_iff_ne.mpr (by omega)]
    exact ifT (ifT (q0 fun h => hn h.2.1))
  rw [show (((nu : Nat) : Int) == ((P.nu : Nat) : Int)) = true from beq_iff_eq.mpr (by omega)]
  refine ifF ⟨_, rfl, l, _, _, rfl, G.o, rfl, _, rfl, _, rfl, _, rfl, ?_⟩
  refine ifD (fun h1 => ?_) fun h1 => ?_
  case refine_2 =>
    have h1 : ¬ ((P.an : Nat) : Int) < ((ks : Nat) : Int) := h1
    exact ⟨_, rfl, ifT (q0 fun h => by have := h.2.2.1; omega)⟩
  have h1 : ((P.an : Nat) : Int) < ((ks : Nat) : Int) := h1
  replace h1 : P.an < ks := by omega
  refine ⟨_, rfl, l, _, _, rfl, G.o, rfl, _, len_rf G.pk, _, rfl, _, rfl, ?_⟩
  rw [List.length_map]
  by_cases h2 : ks ≤ P.pr.length
  case neg =>
    have e2 : (!decide (((ks : Nat) : Int) ≤ ((P.pr.length : Nat) : Int))) = true := by
      rw [decide_eq_false (by omega)]; rfl
    show if (!decide (((ks : Nat) : Int) ≤ ((P.pr.length : Nat) : Int))) = true then _ else _
    rw [if_pos e2]
    exact q0 fun h => h2 h.2.2.2.1
  have e2 : ¬ (!decide (((ks : Nat) : Int) ≤ ((P.pr.length : Nat) : Int))) = true := by
    rw [decide_eq_true (by omega)]; exact Bool.false_ne_true
  show if (!decide (((ks : Nat) : Int) ≤ ((P.pr.length : Nat) : Int))) = true then _ else _
  rw [if_neg e2]
  dsimp only [dNext]
  have h4 := ok.pl
  have h3 := letters_le (P.pr.drop ks)
  rw [List.length_drop] at h3
  have l1 := join_le2 (seg_lens st.b).1
  have l2 := st.b.t
  refine ⟨_, rfl, stD sg i t, rfl, st_sz st, (fun e => by rw [st.st] at e; cases e), fun segs i' t' e _ => ?_⟩
  obtain ⟨rfl, rfl, rfl⟩ := stD_inj e
  refine ⟨_, rfl, l, _, _, rfl, G.o, rfl, _, rfl, _, rfl, _, sliceR G.pk, ?_⟩
  dsimp only [dNil, dCons, dC]
  refine ⟨P.pr.drop ks, rfl, by rw [List.length_drop]; omega, _, adds (by unfold readsT; rw [app_len]; omega), _, rfl, _, rfl, _, rfl, ifD (fun h => ?_) fun h => ?_⟩
  · have h : (((readsT sg t ++ lettersT (P.pr.drop ks)).length : Nat) : Int) ≤ 40 := h
    have hs : P.sees nu ks sg t := ⟨hb, hn, h1, h2, by omega⟩
    refine ⟨_, rfl, _, rfl, l, _, rfl, G.o, (by show 6 < 1000; decide), ?_⟩
    rw [set_a]
    have o1 := g_set (s := s) (o := some (.ins "Page" (fl6 (.ref (l + 1)) (.bl P.be) (inD P.nu) (.ref k) (inD ks) (stD P.sg P.at_ P.tl)))) hl
    refine ⟨_, rfl, _, rfl, l, _, rfl, o1, (by show 6 < 1000; decide), ?_⟩
    rw [set_l, List.set_set]
    refine q hs _ (G.to (fun j h1 h2 => List.getElem?_set_ne (Ne.symm h1)) ⟨rfl, rfl, rfl, rfl, rfl, rfl⟩ (g_set hl) ?_) List.length_set fun j hj => List.getElem?_set_ne (Ne.symm hj)
    rw [List.getElem?_set_ne (Ne.symm hlk)]; exact G.pk
  · have h : ¬ (((readsT sg t ++ lettersT (P.pr.drop ks)).length : Nat) : Int) ≤ 40 := h
    exact q0 fun h' => h (by have := h'.2.2.2.2; omega)
theorem sI1 {a : D} : putD "sheet" a [] = ([("sheet", a)] : List (Str × D)) := rfl
theorem sI2 {a b : D} : putD "caret_at" b ([("sheet", a)] : List (Str × D)) = ([("sheet", a), ("caret_at", b)] : List (Str × D)) := by rw [putD, if_neg (by decide), putD]
theorem sI3 {a b c : D} : putD "covered_many" c ([("sheet", a), ("caret_at", b)] : List (Str × D)) = ([("sheet", a), ("caret_at", b), ("covered_many", c)] : List (Str × D)) := by rw [putD, if_neg (by decide)]; rw [putD, if_neg (by decide), putD]
theorem pI1 {a : D} : putD "site" a [] = ([("site", a)] : List (Str × D)) := rfl
theorem pI2 {a b : D} : putD "begun" b ([("site", a)] : List (Str × D)) = ([("site", a), ("begun", b)] : List (Str × D)) := by rw [putD, if_neg (by decide), putD]
theorem pI3 {a b c : D} : putD "number" c ([("site", a), ("begun", b)] : List (Str × D)) = ([("site", a), ("begun", b), ("number", c)] : List (Str × D)) := by rw [putD, if_neg (by decide)]; rw [putD, if_neg (by decide), putD]
theorem pI4 {a b c d : D} : putD "pressed" d ([("site", a), ("begun", b), ("number", c)] : List (Str × D)) = ([("site", a), ("begun", b), ("number", c), ("pressed", d)] : List (Str × D)) := by rw [putD, if_neg (by decide)]; rw [putD, if_neg (by decide)]; rw [putD, if_neg (by decide), putD]
theorem pI5 {a b c d e : D} : putD "answered" e ([("site", a), ("begun", b), ("number", c), ("pressed", d)] : List (Str × D)) = ([("site", a), ("begun", b), ("number", c), ("pressed", d), ("answered", e)] : List (Str × D)) := by rw [putD, if_neg (by decide)]; rw [putD, if_neg (by decide)]; rw [putD, if_neg (by decide)]; rw [putD, if_neg (by decide), putD]
theorem pI6 {a b c d e g : D} : putD "latest" g ([("site", a), ("begun", b), ("number", c), ("pressed", d), ("answered", e)] : List (Str × D)) = fl6 a b c d e g := by rw [putD, if_neg (by decide)]; rw [putD, if_neg (by decide)]; rw [putD, if_neg (by decide)]; rw [putD, if_neg (by decide)]; rw [putD, if_neg (by decide), putD]
theorem pf_Site___init__ (h : sp_Site___init__ ds s Q E) : b_Site___init__ (endsOf Q) (envD ["self"] ds) s := by
  obtain ⟨s0, rfl, rfl, q⟩ := h
  have l0 : (s0 ++ [some (MO.ins "Site" [])]).length = s0.length + 1 := by simp
  refine ⟨s0 ++ [some (.ins "Site" [])], rfl, rfl, fun s1 SH l1 b1 => ⟨rfl, ?_⟩⟩
  rw [l0] at SH l1
  have o0 : s1[s0.length]? = some (some (.ins "Site" [])) := (b1 _ (by omega)).trans (by simp)
  have hl : s0.length < s1.length := by omega
  refine ⟨_, rfl, s0.length, _, rfl, o0, (by show 0 < 1000; decide), ?_⟩
  rw [sI1]
  refine ⟨_, rfl, s0.length, _, rfl, g_set hl, (by show 1 < 1000; decide), ?_⟩
  rw [List.set_set, sI2]
  refine ⟨_, rfl, s0.length, _, rfl, g_set hl, (by show 2 < 1000; decide), ?_⟩
  rw [List.set_set, sI3, l0]
  refine q _ ?_ ?_ (by rw [List.length_set]; omega) fun j hj => ?_
  · exact g_set hl
  · refine ShU_own SH fun j hj => List.getElem?_set_ne fun e => ?_
    have hj : j = s0.length + 1 ∨ j = s0.length + 1 + 2 ∨ j = s0.length + 1 + 4 ∨ j = s0.length + 2 ∨ j = s0.length + 4 ∨ j = s0.length + 6 := hj
    omega
  · rw [List.getElem?_set_ne (by omega), b1 j (by omega), List.getElem?_append_left hj]
theorem pf_Page___init__ (h : sp_Page___init__ ds s Q E) : b_Page___init__ (endsOf Q) (envD ["self"] ds) s := by
  obtain ⟨s0, rfl, rfl, q⟩ := h
  have l0 : (s0 ++ [some (MO.ins "Page" [])]).length = s0.length + 1 := by simp
  refine ⟨s0 ++ [some (.ins "Page" [])], rfl, rfl, fun s1 T SH l1 b1 => ⟨rfl, ?_⟩⟩
  rw [l0] at T SH l1
  have o0 : s1[s0.length]? = some (some (.ins "Page" [])) := (b1 _ (by omega)).trans (by simp)
  have hl : s0.length < s1.length := by omega
  refine ⟨_, rfl, s0.length, _, rfl, o0, (by show 0 < 1000; decide), ?_⟩
  rw [pI1]
  refine ⟨_, rfl, s0.length, _, rfl, g_set hl, (by show 1 < 1000; decide), ?_⟩
  rw [List.set_set, pI2]
  refine ⟨_, rfl, s0.length, _, rfl, g_set hl, (by show 2 < 1000; decide), ?_⟩
  rw [List.set_set, pI3]
  refine ⟨Nat.zero_le _, _, rfl, s0.length, _, rfl, (List.getElem?_append_left (by rw [List.length_set]; exact hl)).trans (g_set hl), (by show 3 < 1000; decide), ?_⟩
  rw [List.length_set, List.set_append_left _ _ (by rw [List.length_set]; exact hl), List.set_set, pI4]
  have hl2 : ∀ o o' : Option MO, s0.length < (s1.set s0.length o ++ [o']).length := fun o o' => by rw [List.length_append, List.length_set]; omega
  have gg : ∀ o o' : Option MO, (s1.set s0.length o ++ [o'])[s0.length]? = some o := fun o o' => (List.getElem?_append_left (by rw [List.length_set]; exact hl)).trans (g_set hl)
  refine ⟨_, rfl, s0.length, _, rfl, gg _ _, (by show 4 < 1000; decide), ?_⟩
  rw [List.set_append_left _ _ (by rw [List.length_set]; exact hl), List.set_set, pI5]
  refine ⟨_, rfl, s0.length, _, rfl, gg _ _, (by show 5 < 1000; decide), ?_⟩
  rw [List.set_append_left _ _ (by rw [List.length_set]; exact hl), List.set_set, pI6, l0, l1]
  have keep : ∀ (o o' : Option MO) j, j < s1.length → j ≠ s0.length → (s1.set s0.length o ++ [o'])[j]? = s1[j]? := fun o o' j h1 h2 => by
    rw [List.getElem?_append_left (by rw [List.length_set]; exact h1), List.getElem?_set_ne (Ne.symm h2)]
  refine q _ ⟨?_, ?_, ?_, ?_, by omega, ?_⟩ (by rw [List.length_append, List.length_set, l1]; rfl) fun j hj => ?_
  · exact gg _ _
  · rw [keep _ _ _ (by omega) (by omega)]; exact T
  · refine ShU_own SH fun j hj => keep _ _ j (SH.lt j hj) fun e => ?_
    have hj : j = s0.length + 2 ∨ j = s0.length + 2 + 2 ∨ j = s0.length + 2 + 4 ∨ j = s0.length + 3 ∨ j = s0.length + 5 ∨ j = s0.length + 7 := hj
    omega
  · rw [List.getElem?_append_right (by rw [List.length_set]; omega), List.length_set, show s0.length + 8 - s1.length = 0 by omega]; rfl
  · unfold Own
    show ¬ (s0.length + 8 = s0.length + 2 ∨ s0.length + 8 = s0.length + 2 + 2 ∨ s0.length + 8 = s0.length + 2 + 4 ∨ s0.length + 8 = s0.length + 3 ∨ s0.length + 8 = s0.length + 5 ∨ s0.length + 8 = s0.length + 7)
    omega
  · rw [keep _ _ j (by omega) (by omega), b1 j (by omega), List.getElem?_append_left hj]
end
end Pg
set_option Elab.async false
set_option linter.all false
set_option autoImplicit false
set_option maxRecDepth 100000
set_option maxHeartbeats 4000000
namespace Ba
open PySem PySem.Spec PyProof.Rows L2 Dl Bk
open Fa (ifD ifB ifT ifF two three powOk10 fapp strL strL_length strL_cps txt_join_signs)
open Fb (Kp Ps Ps.up Ps.app Ps.set Ps.lt ixr app_last sp__law_take mono__law_take len__law_take sgnIn_of strs_signs sum_signs lc_draws)
def sp__law_bag : SpD := fun ds s Q _ => ∃ (ns : List Int) (k : Int), ds = [.frl (ns.map .int), .int k] ∧ 0 ≤ k ∧ k ≤ 100 ∧ ∀ s', Ps 6100 s.length s' → s'.length = s.length + 1 → (∀ l, l < s.length → s'[l]? = s[l]?) → Q (.ref s.length) s'
theorem mono__law_bag : MonoSp sp__law_bag := fun _ _ _ _ _ _ f _ ⟨ns, k, h1, h2, h3, h⟩ => ⟨ns, k, h1, h2, h3, fun s' a1 a2 a3 => f _ _ (h s' a1 a2 a3)⟩
theorem len__law_bag : ∀ ds s Q E, sp__law_bag ds s Q E → ds.length = ["script", "k"].length := fun _ _ _ _ ⟨_, _, h, _⟩ => by rw [h]; rfl
/-- a drawn word: small letters, one to so many -/
def sp__law_word : SpD := fun ds s Q _ => ∃ (c : Int) (p : Nat) (most : Int), ds = [.ref p, .int most] ∧ 1 ≤ most ∧ most ≤ 100 ∧ Ps c p s ∧ c ≤ 100000000 ∧ ∀ (z : Str) s', sgnIn az z = true → 1 ≤ z.length → (z.length : Int) ≤ most → Ps (c + 102) p s' → Kp p s s' → s'.length = s.length → Q (.str z) s'
theorem mono__law_word : MonoSp sp__law_word := fun _ _ _ _ _ _ f _ ⟨c, p, m, h1, h2, h3, h4, h5, h⟩ => ⟨c, p, m, h1, h2, h3, h4, h5, fun s' z a1 a2 a3 a4 a5 a6 => f _ _ (h s' z a1 a2 a3 a4 a5 a6)⟩
theorem len__law_word : ∀ ds s Q E, sp__law_word ds s Q E → ds.length = ["bag", "most"].length := fun _ _ _ _ ⟨_, _, _, h, _⟩ => by rw [h]; rfl
def b__law_bag : SD := (dSeq (dAsg (dC (.int 0)) (gN 2))
  (dSeq (dIfS (dTest (dBin (oF ltF) (dVar 1) (dCB lenF (dCons (dVar 0) dNil)))) (dAsg (dBin (oF idxF) (dVar 0) (dVar 1)) (gN 2)) dNext)
  (dRet (dNew (dCons (dCB max2F (dCons (dC (.int 0)) (dCons (dBin (oF subF) (dVar 2) (dBin oPow (dC (.int 10)) (dC (.int 18)))) dNil))) (dCons (dBin oMod (dVar 2) (dBin (oF addF) (dBin oPow (dC (.int 10)) (dC (.int 40))) (dC (.int 121)))) (dCons (dBin oMul (dC (.int 61)) (dVar 1)) dNil)))))))
def b__law_take : SD := (dSeq (dIfS (dTest (dBin (oF gtBF) (dBin (oF idxF) (dVar 0) (dC (.int 0))) (dC (.int 0)))) (dSeq (dAsg (dBin oMod (dBin (oF idxF) (dVar 0) (dC (.int 0))) (dVar 1)) (gN 3))
  (dSeq (dAsg (dBin oDiv (dBin (oF idxF) (dVar 0) (dC (.int 0))) (dVar 1)) (gIx (dVar 0) (dC (.int 0))))
  (dRet (dVar 3)))) dNext)
  (dSeq (dAsg (dBin (oF addF) (dBin (oF idxF) (dVar 0) (dC (.int 2))) (dC (.int 1))) (gIx (dVar 0) (dC (.int 2))))
  (dSeq (dAsg (dBin (oF addF) (dBin oMul (dBin (oF addF) (dBin (oF idxF) (dVar 0) (dC (.int 1))) (dC (.int 1))) (dBin (oF addF) (dBin oMul (dC (.int 30011)) (dBin (oF idxF) (dVar 0) (dC (.int 2)))) (dC (.int 7)))) (dBin oMul (dBin oMul (dC (.int 104729)) (dBin (oF idxF) (dVar 0) (dC (.int 2)))) (dBin (oF idxF) (dVar 0) (dC (.int 2))))) (gN 2))
  (dSeq (dAsg (dBin oMod (dBin oMul (dVar 2) (dVar 2)) (dBin (oF addF) (dBin oPow (dC (.int 10)) (dC (.int 41))) (dC (.int 37)))) (gN 2))
  (dRet (dBin oMod (dBin oDiv (dBin oMod (dBin oMul (dVar 2) (dBin (oF addF) (dVar 2) (dC (.int 97)))) (dBin (oF addF) (dBin oPow (dC (.int 10)) (dC (.int 40))) (dC (.int 4323)))) (dC (.int 100003))) (dVar 1)))))))
def b__law_word : SD := (dSeq (dAsg (dBin (oF idxF) (dLst (dCons (dC (.str "ab")) (dCons (dC (.str "abc")) (dCons (dC (.str "nmo")) (dCons (dC (.str "zyx")) (dCons (dC (.str "abcdefghijklmnopqrstuvwxyz")) dNil)))))) (dCall sp__law_take [] (dCons (dVar 0) (dCons (dC (.int 5)) dNil)))) (gN 2))
  (dRet (dJoin (dC (.str "")) (dLc (iR1 (dCons (dBin (oF addF) (dC (.int 1)) (dCall sp__law_take [] (dCons (dVar 0) (dCons (dVar 1) dNil)))) dNil)) (CT.g (.one 3)) dYes (dBin (oF idxF) (dVar 2) (dCall sp__law_take [] (dCons (dVar 0) (dCons (dCB lenF (dCons (dVar 2) dNil)) dNil)))) [3]))))
theorem mul_bd {x y X Y : Int} (x0 : 0 ≤ x) (x1 : x ≤ X) (y0 : 0 ≤ y) (y1 : y ≤ Y) : 0 ≤ x * y ∧ x * y ≤ X * Y :=
  ⟨Int.mul_nonneg x0 y0, Int.le_trans (Int.mul_le_mul_of_nonneg_right x1 y0) (Int.mul_le_mul_of_nonneg_left y1 (Int.le_trans x0 x1))⟩
theorem mulOk_b {a b : Int} (ha : a.natAbs < 2 ^ 400) (hb : b.natAbs < 2 ^ 400) : MulOk a b :=
  IntMulOk.of_bits (Nat.le_trans (intBits_le_iff.mpr ha) (by decide)) (Nat.le_trans (intBits_le_iff.mpr hb) (by decide))
section
variable (ds : List D) (s : Sto) (Q : D → Sto → Prop) (E : XD)
theorem pf__law_bag (h : sp__law_bag ds s Q E) : b__law_bag (endsOf Q) (envD ["script", "k", "cell"] ds) s := by
  obtain ⟨ns, k, rfl, k0, k1, q⟩ := h
  have key : ∀ c : Int, (dRet (dNew (dCons (dCB max2F (dCons (dC (.int 0)) (dCons (dBin (oF subF) (dVar 2) (dBin oPow (dC (.int 10)) (dC (.int 18)))) dNil))) (dCons (dBin oMod (dVar 2) (dBin (oF addF) (dBin oPow (dC (.int 10)) (dC (.int 40))) (dC (.int 121)))) (dCons (dBin oMul (dC (.int 61)) (dVar 1)) dNil))))) (endsOf Q) [some (.frl (ns.map .int)), some (.int k), some (.int c)] s := fun c => by
    refine ⟨_, rfl, _, _, rfl, rfl, powOk10 (by decide) (by decide), _, rfl, _, rfl, ?_⟩
    refine ⟨_, rfl, _, _, rfl, rfl, powOk10 (by decide) (by decide), _, rfl, _, _, rfl, rfl, (show (0 : Int) < 10 ^ (40 : Int).toNat + 121 by decide), ?_⟩
    refine ⟨_, rfl, .inl ⟨_, _, rfl, rfl, IntMulOk.of_left (by decide), Dl.ll, ?_⟩⟩
    have h0 := Int.emod_nonneg c (show (10 ^ (40 : Int).toNat + 121 : Int) ≠ 0 by decide)
    have h1 := Int.emod_lt_of_pos c (show (0 : Int) < 10 ^ (40 : Int).toNat + 121 by decide)
    have h2 : (10 ^ (40 : Int).toNat + 121 : Int) = 10000000000000000000000000000000000000121 := by decide
    refine q _ ⟨_, _, _, app_last, h0, by omega, by omega, by omega⟩ (by simp) fun l hl => List.getElem?_append_left hl
  refine ⟨_, rfl, _, rfl, _, rfl, _, rfl, _, rfl, ifD (fun hk => ?_) fun _ => ?_⟩
  · obtain ⟨x, hx, hm⟩ := atI_mem (xs := ns.map D.int) k0 hk
    obtain ⟨c, _, rfl⟩ := List.mem_map.mp hm
    exact ⟨_, rfl, _, rfl, _, hx, key c⟩
  · exact key 0
theorem pf__law_take (h : sp__law_take ds s Q E) : b__law_take (endsOf Q) (envD ["bag", "many", "mark", "found"] ds) s := by
  obtain ⟨c, p, many, rfl, ⟨a, b, n, hp, b0, b1, n0, n1⟩, hc, m1, m2, q⟩ := h
  have lp : p < s.length := (List.getElem?_eq_some_iff.mp hp).1
  refine ⟨_, rfl, _, ixr hp rfl, _, rfl, _, rfl, ifD (fun ha => ?_) fun _ => ?_⟩
  · refine ⟨_, rfl, _, ixr hp rfl, _, rfl, _, _, rfl, rfl, (by omega : 0 < many), ?_⟩
    refine ⟨_, rfl, _, ixr hp rfl, _, rfl, _, _, rfl, rfl, divOk_of (by omega) (by omega), ?_⟩
    refine ⟨_, rfl, _, _, _, _, rfl, rfl, hp, rfl, ?_⟩
    exact ⟨_, rfl, q _ _ (Int.emod_nonneg _ (by omega)) (Int.emod_lt_of_pos _ (by omega)) ⟨a / many, b, n, List.getElem?_set_self lp, b0, b1, n0, by omega⟩ .set (by simp)⟩
  · refine ⟨_, rfl, _, ixr hp rfl, _, rfl, _, rfl, _, _, _, _, rfl, rfl, hp, rfl, ?_⟩
    have hp2 : (s.set p (some (.lst [.int a, .int b, .int (n + 1)])))[p]? = some (some (.lst [.int a, .int b, .int (n + 1)])) := List.getElem?_set_self lp
    have u1 := mul_bd (x := b + 1) (X := 10000000000000000000000000000000000000122) (y := 30011 * (n + 1) + 7) (Y := 100000000000000) (by omega) (by omega) (by omega) (by omega)
    have u2 := mul_bd (x := 104729 * (n + 1)) (X := 1000000000000000) (y := n + 1) (Y := 10000000000) (by omega) (by omega) (by omega) (by omega)
    refine ⟨_, rfl, _, ixr hp2 rfl, _, rfl, _, rfl, _, ixr hp2 rfl, .inl ⟨_, _, rfl, rfl, IntMulOk.of_left (by decide), _, rfl, .inl ⟨_, _, rfl, rfl, mulOk_b (by omega) (by omega), ?_⟩⟩⟩
    refine ⟨_, rfl, _, ixr hp2 rfl, .inl ⟨_, _, rfl, rfl, IntMulOk.of_left (by decide), _, rfl, _, ixr hp2 rfl, .inl ⟨_, _, rfl, rfl, mulOk_b (by omega) (by omega), _, rfl, ?_⟩⟩⟩
    generalize (b + 1) * (30011 * (n + 1) + 7) = x at u1
    generalize 104729 * (n + 1) * (n + 1) = y at u2
    refine ⟨_, rfl, _, rfl, .inl ⟨_, _, rfl, rfl, mulOk_b (by omega) (by omega), ?_⟩⟩
    refine ⟨_, _, rfl, rfl, powOk10 (by decide) (by decide), _, rfl, _, _, rfl, rfl, (show (0 : Int) < 10 ^ (41 : Int).toNat + 37 by decide), ?_⟩
    have k0 := Int.emod_nonneg ((x + y) * (x + y)) (show (10 ^ (41 : Int).toNat + 37 : Int) ≠ 0 by decide)
    have k1 := Int.emod_lt_of_pos ((x + y) * (x + y)) (show (0 : Int) < 10 ^ (41 : Int).toNat + 37 by decide)
    have h41 : (10 ^ (41 : Int).toNat + 37 : Int) = 100000000000000000000000000000000000000037 := by decide
    rw [h41] at k0 k1 ⊢
    refine ⟨_, rfl, _, rfl, _, rfl, .inl ⟨_, _, rfl, rfl, mulOk_b (by omega) (by omega), ?_⟩⟩
    refine ⟨_, _, rfl, rfl, powOk10 (by decide) (by decide), _, rfl, _, _, rfl, rfl, (show (0 : Int) < 10 ^ (40 : Int).toNat + 4323 by decide), ?_⟩
    refine ⟨_, _, rfl, rfl, divOk_of (by decide) (by decide), ?_⟩
    refine ⟨_, rfl, _, _, rfl, rfl, (by omega : 0 < many), ?_⟩
    exact q _ _ (Int.emod_nonneg _ (by omega)) (Int.emod_lt_of_pos _ (by omega)) ⟨a, b, n + 1, hp2, b0, b1, by omega, by omega⟩ .set (by simp)
theorem pf__law_word (h : sp__law_word ds s Q E) : b__law_word (endsOf Q) (envD ["bag", "most", "letters", "turn"] ds) s := by
  obtain ⟨c, p, most, rfl, m0, m1, S, hc, q⟩ := h
  refine ⟨Dl.ll, _, rfl, c, p, 5, rfl, S, by omega, by decide, by decide, fun i1 s1 a1 b1 S1 K1 l1 => ?_⟩
  obtain ⟨y, hy, my⟩ := atI_mem (xs := [D.str "ab", .str "abc", .str "nmo", .str "zyx", .str "abcdefghijklmnopqrstuvwxyz"]) a1 (by simpa using b1)
  have hy' : ∃ z : Str, y = .str z ∧ sgnIn az z = true ∧ 1 ≤ z.length ∧ z.length ≤ 26 := by
    rcases (by simpa using my : y = D.str "ab" ∨ y = .str "abc" ∨ y = .str "nmo" ∨ y = .str "zyx" ∨ y = .str "abcdefghijklmnopqrstuvwxyz") with rfl | rfl | rfl | rfl | rfl <;> exact ⟨_, rfl, by decide +kernel, by decide, by decide⟩
  obtain ⟨z, rfl, hz, z1, z2⟩ := hy'
  refine ⟨_, hy, ?_⟩
  refine ⟨_, rfl, _, rfl, _, rfl, _, p, most, rfl, S1, by omega, by omega, by omega, fun i2 s2 a2 b2 S2 K2 l2 => ?_⟩
  have hlen : (rangeD 0 (1 + i2).toNat).length = (1 + i2).toNat := by simp [rangeD]
  refine ⟨_, rfl, _, rfl, by omega, by omega, le_line (by rw [hlen]; omega), ?_⟩
  refine lc_draws (z := z) (n := 1 + i2) rfl (by decide) (Nat.lt_succ_self 3) S2 (by omega) z1 (by omega) (by omega) (fun d s P p => ⟨_, rfl, p⟩) (fun d s P p => ⟨_, rfl, _, rfl, p⟩) fun l s3 hl hm S3 K3 l3 => ?_
  refine ⟨_, _, rfl, strs_signs l, sum_signs (by omega), ?_⟩
  rw [txt_join_signs]
  refine q (strL l) s3 (sgnIn_of hz hm) ?_ ?_ (S3.up (by omega)) ((K1.trans K2).trans K3) (by omega)
  · rw [strL_length, hl]; omega
  · rw [strL_length, hl]; omega
end
end Ba
set_option Elab.async false
set_option linter.all false
set_option autoImplicit false
set_option maxRecDepth 100000
set_option maxHeartbeats 4000000
namespace Ba
open PySem PySem.Spec PyProof.Rows L2 Dl Bk
open Fa (ifD ifB ifT ifF two three powOk10 fapp strL strL_length strL_cps txt_join_signs)
open Fb (Kp Ps Ps.up Ps.app Ps.set Ps.lt Kp.app Kp.set Kp.trans Kp.refl Kp.get ixr app_last sp__law_take mono__law_take len__law_take sgnIn_of strs_signs sum_signs lc_draws)
theorem ixm {xs : List D} {i : Int} (a : 0 ≤ i) (b : i < xs.length) : ∃ y, (∀ s, idxF s (.lst xs) (.int i) = some y) ∧ y ∈ xs := by
  refine ⟨xs[i.toNat]'(by omega), fun s => ?_, List.getElem_mem _⟩
  show atI xs i = _
  rw [atI_in a b, List.getElem?_eq_getElem]
end Ba
set_option Elab.async false
set_option linter.all false
set_option autoImplicit false
set_option maxRecDepth 100000
set_option maxHeartbeats 4000000
namespace Ba
open PySem PySem.Spec PyProof.Rows L2 Dl Bk
open Fb (Kp Ps Ps.up Ps.app Ps.set Ps.lt Kp.app Kp.set Kp.trans Kp.refl Kp.get app_last sp__law_take mono__law_take len__law_take lc_draws strs_signs sum_signs sgnIn_of)
open Tt hiding az AZ
open Fa (ifD ifB ifT ifF two three strL strL_length strL_cps fapp txt_join_signs)
/-- a word of a book: its reading, its writing -/
def WdOk (w : D) : Prop := ∃ (r z : Str) (c k : D), w = .tup [.str r, .str z, c, k] ∧ sgnIn az r = true ∧ 1 ≤ r.length ∧ r.length ≤ 40 ∧ sgnF "ABCDEFGHIJKLMNOPQRSTUVWXYZ" 12 (.str z) = true
def sp__law_state : SpD := fun ds s Q _ => ∃ (c : Int) (p : Nat) (ws : List D) (j : D), ds = [.ref p, .tup [.lst ws, j]] ∧ (∀ w ∈ ws, WdOk w) ∧ ws.length ≤ 30 ∧ Ps c p s ∧ c ≤ 10000000 ∧ ∀ segs i t s', StOk segs i t → Ps (c + 1200) p s' → Kp p s s' → Q (stD segs i t) s'
theorem mono__law_state : MonoSp sp__law_state := fun _ _ _ _ _ _ f _ ⟨c, p, ws, j, h1, h2, h3, h4, h5, h⟩ => ⟨c, p, ws, j, h1, h2, h3, h4, h5, fun a b d s' a1 a2 a3 => f _ _ (h a b d s' a1 a2 a3)⟩
theorem len__law_state : ∀ ds s Q E, sp__law_state ds s Q E → ds.length = ["bag", "book"].length := fun _ _ _ _ ⟨_, _, _, _, h, _⟩ => by rw [h]; rfl
def b__law_state : SD := (dSeq (dAsg (dNew dNil) (gN 2))
  (dSeq (dAsg (dC (.int 40)) (gN 3))
  (dSeq (dFor (iR1 (dCons (dCall sp__law_take [] (dCons (dVar 0) (dCons (dC (.int 7)) dNil))) dNil)) (gN 4) (dSeq (dAsg (dTup (dCons (dCall sp__law_word [] (dCons (dVar 0) (dCons (dBin (oF idxF) (dLst (dCons (dC (.int 3)) (dCons (dC (.int 12)) dNil))) (dCall sp__law_take [] (dCons (dVar 0) (dCons (dC (.int 2)) dNil)))) dNil))) (dCons (dC (.str "ODD")) dNil))) (gN 6))
  (dSeq (dAsg (dCall sp__law_take [] (dCons (dVar 0) (dCons (dC (.int 4)) dNil))) (gN 7))
  (dSeq (dIfS (dAnd (dTest (dBin (oF ltF) (dVar 7) (dC (.int 2)))) (dTest (dBin (oF neF) (dBin (oF idxF) (dVar 1) (dC (.int 0))) (dLst dNil)))) (dAsg (dSl (dBin (oF idxF) (dBin (oF idxF) (dVar 1) (dC (.int 0))) (dCall sp__law_take [] (dCons (dVar 0) (dCons (dCB lenF (dCons (dBin (oF idxF) (dVar 1) (dC (.int 0))) dNil)) dNil)))) dNoP (dP (dC (.int 2)))) (gN 6)) (dIfS (dTest (dBin (oF ltF) (dVar 7) (dC (.int 3)))) (dAsg (dTup (dCons (dBin (oF idxF) (dVar 6) (dC (.int 0))) (dCons (dBin (oF idxF) (dVar 6) (dC (.int 0))) dNil))) (gN 6)) dNext))
  (dIfS (dTest (dBin (oF leF) (dCB lenF (dCons (dBin (oF idxF) (dVar 6) (dC (.int 0))) dNil)) (dVar 3))) (dSeq (dDrop (dMt fAppend (dVar 2) (dCons (dVar 6) dNil)))
  (dAsg (dBin (oF subF) (dVar 3) (dCB lenF (dCons (dBin (oF idxF) (dVar 6) (dC (.int 0))) dNil))) (gN 3))) dNext)))))
  (dSeq (dAsg (dIf (dTest (dBin (oF eqF) (dVar 3) (dC (.int 0)))) (dC (.str "")) (dCall sp__law_word [] (dCons (dVar 0) (dCons (dVar 3) dNil)))) (gN 5))
  (dSeq (dAsg (dBin (oF idxF) (dLst (dCons (dC (.str "")) (dCons (dVar 5) (dCons (dSl (dVar 5) dNoP (dP (dC (.int 3)))) (dCons (dSl (dBin oMul (dVar 5) (dC (.int 40))) dNoP (dP (dVar 3))) dNil))))) (dCall sp__law_take [] (dCons (dVar 0) (dCons (dC (.int 4)) dNil)))) (gN 5))
  (dRet (dTup (dCons (dCB tupleF (dCons (dVar 2) dNil)) (dCons (dCall sp__law_take [] (dCons (dVar 0) (dCons (dCB max2F (dCons (dC (.int 1)) (dCons (dCB lenF (dCons (dVar 2) dNil)) dNil))) dNil))) (dCons (dVar 5) dNil))))))))))
abbrev sumL (segs : List (Str × Str)) : Int := (segs.map fun p => (p.1.length : Int)).sum
theorem sumL_nn (segs : List (Str × Str)) : 0 ≤ sumL segs := by
  induction segs with
  | nil => exact Int.le_refl 0
  | cons p l ih =>
    show 0 ≤ ((p :: l).map fun p => (p.1.length : Int)).sum
    rw [List.map_cons, List.sum_cons]
    have : 0 ≤ (l.map fun p => (p.1.length : Int)).sum := ih
    omega
theorem len_rf {s : Sto} {l : Nat} {xs : List D} (h : s[l]? = some (some (.lst xs))) : lenF s [.ref l] = some (.int xs.length) := by
  show (seqL s (.ref l)).map _ = _
  rw [seqL_ref h]; rfl
theorem tup_rf {s : Sto} {l : Nat} {xs : List D} (h : s[l]? = some (some (.lst xs))) : tupleF s [.ref l] = some (.tup xs) := by
  show (seqA s (.ref l)).map _ = _
  rw [show seqA s (.ref l) = some xs from seqL_ref h]; rfl
/-- what a segment says -/
def SegP (p : Str × Str) : Prop := sgnIn az p.1 = true ∧ 1 ≤ p.1.length ∧ p.1.length ≤ 40 ∧ (sgnF Tt.AZ 12 (.str p.2) = true ∨ p.2 = p.1)
theorem az_sub {l : List Nat} {z : Str} (hz : sgnIn az z = true) (h : ∀ x ∈ l, x ∈ z.cps.toList) : sgnIn az ⟨l.toArray⟩ = true := by
  refine List.all_eq_true.mpr fun c hc => ?_
  exact List.all_eq_true.mp hz c (h c (by simpa using hc))
theorem cut_mem {α : Type} {l : List α} {lo hi : Option Int} {x : α} (h : x ∈ Dl.cutD l lo hi) : x ∈ l := by
  unfold Dl.cutD at h
  exact List.mem_of_mem_drop (List.mem_of_mem_take h)
theorem cut_lenS {z : Str} {lo hi : Option Int} : (⟨(Dl.cutD z.cps.toList lo hi).toArray⟩ : Str).length ≤ z.length := by
  show (Dl.cutD z.cps.toList lo hi).toArray.size ≤ z.cps.size
  unfold Dl.cutD
  rw [List.size_toArray, List.length_take, List.length_drop, Array.length_toList]
  omega
theorem rep_mem {z : Str} {n : Nat} {x : Nat} (h : x ∈ (repS z n).cps.toList) : x ∈ z.cps.toList := by
  unfold repS at h
  simp at h
  obtain ⟨a, h1, h2⟩ := h
  rw [h1.2] at h2
  exact h2
theorem sumL_app (a : List (Str × Str)) (p : Str × Str) : sumL (a ++ [p]) = sumL a + (p.1.length : Int) := by
  show ((a ++ [p]).map fun p => (p.1.length : Int)).sum = (a.map fun p => (p.1.length : Int)).sum + _
  rw [List.map_append, List.sum_append]; simp
section
variable (ds : List D) (s : Sto) (Q : D → Sto → Prop) (E : XD)
theorem pf__law_state (h : sp__law_state ds s Q E) : b__law_state (endsOf Q) (envD ["bag", "book", "segments", "left", "k", "tail", "pair", "turn"] ds) s := by
  obtain ⟨c, p, ws, j, rfl, hW, hwl, S, hc, q⟩ := h
  have hr : ∀ a n, (rangeD a n).length = n := fun a n => by simp [rangeD]
  have hL := sizeLine_eq
  have hp0 := S.lt
  have hlp : s.length ≠ p := by omega
  refine ⟨Nat.zero_le _, ?_⟩
  refine ⟨_, rfl, c, p, 7, rfl, S.app, by omega, by decide, by decide, fun m s1 a1 b1 S1 K1 l1 => ⟨_, rfl, by omega, by omega, ?_⟩⟩
  have g1 : s1[s.length]? = some (some (.lst [])) := K1.get app_last hlp
  refine forD_run (fun rest env s' => ∃ (segs : List (Str × Str)) (left : Int) (a4 a6 a7 : Option D), env = [some (.ref p), some (.tup [.lst ws, j]), some (.ref s.length), some (.int left), a4, none, a6, a7] ∧ s'[s.length]? = some (some (.lst (segs.map segD))) ∧ (∀ p ∈ segs, SegP p) ∧ left = 40 - sumL segs ∧ 0 ≤ left ∧ segs.length + rest.length ≤ 7 ∧
    Ps (c + 10 + 120 * (7 - rest.length : Nat)) p s' ∧ Kp p s s') ?_ ?_ ⟨[], 40, none, none, none, rfl, g1, (fun _ h => nomatch h), rfl, by decide, by rw [hr, List.length_nil]; omega, S1.up (by omega), Kp.app.trans K1⟩
  · rintro d rest env s2 ⟨segs, left, a4, a6, a7, rfl, hg, hP, hleft, h0, hl, S2, K2⟩ N hN
    rw [List.length_cons] at hl S2
    refine ⟨trivial, ?_⟩
    refine ⟨_, rfl, Dl.ll, _, rfl, _, p, 2, rfl, S2, by omega, by decide, by decide, fun i3 s3 a3 b3 S3 K3 l3 => ?_⟩
    obtain ⟨y, hy, my⟩ := two (a := D.int 3) (b := .int 12) a3 b3
    have hy' : ∃ m : Int, y = .int m ∧ 1 ≤ m ∧ m ≤ 12 := by
      rcases my with rfl | rfl <;> exact ⟨_, rfl, by decide, by decide⟩
    obtain ⟨most, rfl, m0, m1⟩ := hy'
    refine ⟨_, hy, _, p, most, rfl, m0, by omega, S3, by omega, fun z s4 hz z1 z2 S4 K4 l4 => ⟨Dl.ll, ?_⟩⟩
    refine ⟨_, rfl, _, p, 4, rfl, S4, by omega, by decide, by decide, fun i5 s5 a5 b5 S5 K5 l5 => ?_⟩
    have K25 := (K3.trans K4).trans K5
    have rest_ : ∀ (EE : EndsD) (r w : Str) (c' : Int) (s6 : Sto), EE.nx = N → SegP (r, w) → Ps c' p s6 → c' ≤ c + 10 + 120 * (7 - rest.length : Nat) → Kp p s2 s6 → (dIfS (dTest (dBin (oF leF) (dCB lenF (dCons (dBin (oF idxF) (dVar 6) (dC (.int 0))) dNil)) (dVar 3))) (dSeq (dDrop (dMt fAppend (dVar 2) (dCons (dVar 6) dNil)))
  (dAsg (dBin (oF subF) (dVar 3) (dCB lenF (dCons (dBin (oF idxF) (dVar 6) (dC (.int 0))) dNil))) (gN 3))) dNext) EE [some (.ref p), some (.tup [.lst ws, j]), some (.ref s.length), some (.int left), some d, none, some (.tup [.str r, .str w]), some (.int i5)] s6 := fun EE r w c' s6 hEE hS S6 hc' K6 => by
      have hg6 := K6.get hg hlp
      refine ⟨_, rfl, _, rfl, _, rfl, _, rfl, _, rfl, _, rfl, ifD (fun hle => ?_) fun hle => ?_⟩
      · have hle' : (r.length : Int) ≤ left := hle
        refine ⟨_, rfl, _, _, rfl, hg6, _, rfl, _, _, _, hg6, fapp (by rw [List.length_map]; omega), ?_⟩
        refine ⟨_, rfl, _, rfl, _, rfl, _, rfl, _, rfl, ?_⟩
        show EE.nx _ _
        rw [hEE]
        refine hN _ _ ⟨segs ++ [(r, w)], _, _, _, _, rfl, by rw [List.getElem?_set_self (List.getElem?_eq_some_iff.mp hg6).1, List.map_append]; rfl, fun q hq => ?_, by rw [sumL_app]; show left - (r.length : Int) = 40 - (sumL segs + (r.length : Int)); omega, by omega, by rw [List.length_append, List.length_singleton]; omega, (S6.set hlp).up hc', ⟨by rw [List.length_set]; exact (K2.trans K6).len, fun l hl hlp' => by rw [List.getElem?_set_ne (by omega)]; exact (K2.trans K6).at_ l hl hlp'⟩⟩
        rcases List.mem_append.mp hq with h | h
        · exact hP q h
        · rw [List.mem_singleton.mp h]; exact hS
      · show EE.nx _ _
        rw [hEE]
        exact hN _ _ ⟨segs, left, _, _, _, rfl, hg6, hP, hleft, h0, by omega, S6.up hc', K2.trans K6⟩
    have hzz : SegP (z, z) := ⟨hz, z1, by show z.length ≤ 40; omega, .inr rfl⟩
    have hzo : SegP (z, "ODD") := ⟨hz, z1, by show z.length ≤ 40; omega, .inl (show sgnF Tt.AZ 12 (.str "ODD") = true by decide +kernel)⟩
    have other : ∀ E1 E2 : EndsD, E1.nx = N → E2.nx = (dIfS (dTest (dBin (oF leF) (dCB lenF (dCons (dBin (oF idxF) (dVar 6) (dC (.int 0))) dNil)) (dVar 3))) (dSeq (dDrop (dMt fAppend (dVar 2) (dCons (dVar 6) dNil)))
  (dAsg (dBin (oF subF) (dVar 3) (dCB lenF (dCons (dBin (oF idxF) (dVar 6) (dC (.int 0))) dNil))) (gN 3))) dNext) E1 → (dIfS (dTest (dBin (oF ltF) (dVar 7) (dC (.int 3)))) (dAsg (dTup (dCons (dBin (oF idxF) (dVar 6) (dC (.int 0))) (dCons (dBin (oF idxF) (dVar 6) (dC (.int 0))) dNil))) (gN 6)) dNext) E2 [some (.ref p), some (.tup [.lst ws, j]), some (.ref s.length), some (.int left), some d, none, some (.tup [.str z, .str "ODD"]), some (.int i5)] s5 := by
      intro E1 E2 h1 h2
      refine ⟨_, rfl, _, rfl, _, rfl, ifD (fun h3 => ?_) fun h3 => ?_⟩
      · refine ⟨_, rfl, _, rfl, _, rfl, _, rfl, Dl.ll, ?_⟩
        show E2.nx _ _
        rw [h2]
        exact rest_ E1 z z _ s5 h1 hzz S5 (by omega) K25
      · show E2.nx _ _
        rw [h2]
        exact rest_ E1 z "ODD" _ s5 h1 hzo S5 (by omega) K25
    refine ⟨_, rfl, _, rfl, _, rfl, ifD (fun h2 => ?_) fun h2 => ?_⟩
    · have hne : ∀ s : Sto, neF s (.lst ws) (.lst []) = some (.bl (!decide (ws = []))) := fun s => by
        cases ws with
        | nil => rfl
        | cons p l => rfl
      refine ⟨_, rfl, _, rfl, Nat.zero_le _, _, hne _, _, rfl, ?_⟩
      by_cases hw0 : ws = []
      · rw [decide_eq_true hw0]
        exact ifF (other _ _ rfl rfl)
      have hw1 : 1 ≤ ws.length := by
        cases ws with
        | nil => exact absurd rfl hw0
        | cons p l => exact Nat.succ_le_succ (Nat.zero_le _)
      rw [decide_eq_false hw0]
      refine ifT ⟨_, rfl, _, rfl, _, rfl, _, rfl, _, rfl, _, rfl, _, p, _, rfl, S5, by omega, by omega, by omega, fun i6 s6 a6' b6 S6 K6 l6 => ?_⟩
      obtain ⟨w, hw, mw⟩ := ixm a6' b6
      obtain ⟨r, wz, cc, kk, rfl, w1, w2, w3, w4⟩ := hW w mw
      exact ⟨_, hw _, _, rfl, _, rfl, rest_ _ r wz _ s6 rfl ⟨w1, w2, w3, .inl w4⟩ S6 (by omega) (K25.trans K6)⟩
    · exact other _ _ rfl rfl
  · rintro env s2 ⟨segs, left, a4, a6, a7, rfl, hg, hP, hleft, h0, hl, S2, K2⟩
    rw [List.length_nil] at hl S2
    refine ⟨trivial, ?_⟩
    have hsl := sumL_nn segs
    have lastly : ∀ (t : Str) (c' : Int) (s3 : Sto), sgnIn az t = true → (t.length : Int) ≤ left → Ps c' p s3 → c' ≤ c + 1100 → Kp p s2 s3 → (dSeq (dAsg (dBin (oF idxF) (dLst (dCons (dC (.str "")) (dCons (dVar 5) (dCons (dSl (dVar 5) dNoP (dP (dC (.int 3)))) (dCons (dSl (dBin oMul (dVar 5) (dC (.int 40))) dNoP (dP (dVar 3))) dNil))))) (dCall sp__law_take [] (dCons (dVar 0) (dCons (dC (.int 4)) dNil)))) (gN 5))
  (dRet (dTup (dCons (dCB tupleF (dCons (dVar 2) dNil)) (dCons (dCall sp__law_take [] (dCons (dVar 0) (dCons (dCB max2F (dCons (dC (.int 1)) (dCons (dCB lenF (dCons (dVar 2) dNil)) dNil))) dNil))) (dCons (dVar 5) dNil)))))) (endsOf Q) [some (.ref p), some (.tup [.lst ws, j]), some (.ref s.length), some (.int left), a4, some (.str t), a6, a7] s3 := fun t c' s3 ht htl S3 hc' K3 => by
      have hmul : mulS s3 (.str t) (.int 40) = some (.str (repS t 40)) := by
        show (if _ then some (D.str (repS t ((40 : Int).toNat))) else none) = _
        rw [if_pos ⟨by show 40 * t.length ≤ 100000; omega, by omega, by decide, by decide⟩]; rfl
      refine ⟨_, rfl, _, rfl, _, rfl, _, rfl, _, rfl, .inr ⟨_, hmul, _, rfl, _, rfl, _, rfl, Dl.ll, ?_⟩⟩
      refine ⟨_, rfl, _, p, 4, rfl, S3, by omega, by decide, by decide, fun i4 s4 a4' b4 S4 K4 l4 => ?_⟩
      obtain ⟨y, hy, my⟩ := ixm (xs := [D.str "", .str t, .str ⟨(Dl.cutD t.cps.toList none (some 3)).toArray⟩, .str ⟨(Dl.cutD (repS t 40).cps.toList none (some left)).toArray⟩]) a4' b4
      have hy' : ∃ z : Str, y = .str z ∧ sgnIn az z = true ∧ (z.length : Int) ≤ left := by
        simp only [List.mem_cons, List.not_mem_nil, or_false] at my
        rcases my with rfl | rfl | rfl | rfl
        · exact ⟨_, rfl, by decide +kernel, by show ((0 : Nat) : Int) ≤ left; omega⟩
        · exact ⟨_, rfl, ht, htl⟩
        · have := cut_lenS (z := t) (lo := none) (hi := some 3)
          exact ⟨_, rfl, az_sub ht fun x hx => cut_mem hx, by omega⟩
        · refine ⟨_, rfl, az_sub ht fun x hx => rep_mem (cut_mem hx), ?_⟩
          show (((Dl.cutD (repS t 40).cps.toList none (some left)).toArray.size : Nat) : Int) ≤ left
          rw [cutD_to h0, List.size_toArray, List.length_take]
          omega
      obtain ⟨z, rfl, hz, hzl⟩ := hy'
      have hg4 := (K3.trans K4).get hg hlp
      have hnl : ((segs.map segD).length : Int) = segs.length := by rw [List.length_map]
      refine ⟨_, hy _, _, rfl, _, tup_rf hg4, _, rfl, _, rfl, _, len_rf hg4, _, rfl, _, p, _, rfl, S4, by omega, by split <;> omega, by rw [hnl]; split <;> omega, fun i5 s5 a5 b5 S5 K5 l5 => ?_⟩
      refine ⟨_, rfl, Dl.ll, ?_⟩
      rw [hnl] at b5
      refine q segs i5 z s5 ⟨hP, a5, by split at b5 <;> split <;> omega, hz, ?_⟩ (S5.up (by omega)) (((K2.trans K3).trans K4).trans K5)
      show (z.length : Int) + sumL segs ≤ 40
      omega
    refine ⟨_, rfl, _, eq_ii, _, rfl, ?_⟩
    by_cases hz : left = 0
    · rw [show (left == 0) = true from beq_iff_eq.mpr hz]
      refine ifT ?_
      exact lastly "" _ s2 (by decide +kernel) (by show ((0 : Nat) : Int) ≤ left; omega) S2 (by omega) .refl
    · rw [show (left == 0) = false from beq_eq_false_iff_ne.mpr hz]
      refine ifF ⟨_, rfl, _, rfl, _, p, left, rfl, by omega, by omega, S2, by omega, fun z s3 hz z1 z2 S3 K3 l3 => ?_⟩
      exact lastly z _ s3 hz z2 S3 (by omega) K3
end
end Ba
set_option Elab.async false
set_option linter.all false
set_option autoImplicit false
set_option maxRecDepth 100000
set_option maxHeartbeats 4000000
namespace Dl
open PySem PySem.Spec PyProof.Rows L2
section
def dPar2 (i j : Nat) (ta : AD) : SD := fun E env s => ta env s fun xs s1 => ∃ a b, xs = [a, b] ∧ E.nx ((env.set i (some a)).set j (some b)) s1
theorem mono_par2 {i j : Nat} {ta : AD} (m : Mono ta) : MonoS (dPar2 i j ta) := fun _ _ _ _ le h => m _ _ _ _ (fun _ _ ⟨a, b, e, q⟩ => ⟨a, b, e, le.nx _ _ q⟩) h
theorem psd_par2 {X : DX} {i j : Nat} {x y : Str} {a b : Expr} {ta : AD} {px py pt pos : Pos} {kt k2 : Nat} {pt2 : Pos} (hc : X.calm = true) (hN : X.N.Nodup) (hi : X.N[i]? = some x) (hj : X.N[j]? = some y) (hij : i ≠ j)
    (hx : X.env.scope.names.lookup x = some .local) (hy : X.env.scope.names.lookup y = some .local) (ha : PAD X [a, b] ta)
    (hw : swappedStores [.Tuple [.Name x px, .Name y py] kt pt] (.Tuple [a, b] k2 pt2) X.env = pure (some [x, y]) := by rfl)
    (hs : swapsWithSole [.Tuple [.Name x px, .Name y py] kt pt] (.Tuple [a, b] k2 pt2) pos.line X.env = pure false := by rfl) :
    PSD X (.Assign [.Tuple [.Name x px, .Name y py] kt pt] (.Tuple [a, b] k2 pt2) pos) (dPar2 i j ta) :=
  ⟨ps_imp (ps_par hc hN hi hj hij hx hy ha.pa hw hs) fun D σ H ⟨env, s, A, B, w, h⟩ => rdA_go ha.mono w h fun xs s1 vs H1 A1 ⟨u, v, ex, q⟩ w1 e1 dv => by
    subst ex
    cases dv with
    | cons d1 dv =>
      cases dv with
      | cons d2 dv =>
        cases dv
        exact ⟨_, _, rfl, q _ _ _ w1.rs e1 ((w1.re.set i d1).set j d2)⟩, mono_par2 ha.mono⟩
end
end Dl
set_option Elab.async false
set_option linter.all false
set_option autoImplicit false
set_option maxRecDepth 100000
set_option maxHeartbeats 600000
namespace Qk47
open PySem PySem.Spec PyProof.Rows L2 Dl Bk Su Pg
open Fb (Kp Ps)
open Fi (keyF)
open Tt (segD stD stateF StOk)
open Sx (Cell sgD ceD Pairs psD inD cellsW cellsF putC allSegs whereC opD SgOk)
/-- the bag at p; the page at l, its keys at l + 8; the keys pressed at l + 9 -/
structure Wp (c : Int) (p l : Nat) (P : Pm) (s : Sto) : Prop where
  S : Ps c p s
  G : PgAt l (l + 8) ⟨l + 3, l + 5, l + 7⟩ P s
  ok : PmOk P
  hr : s[l + 9]? = some (some (.lst (P.pr.map D.str)))
  pl : p < l
  z : P.m = ⟨[], fun _ => [], []⟩ ∧ P.n = 0 ∧ P.b = [] ∧ P.g = [] ∧ P.ca = 0 ∧ P.co = 0 ∧ P.nu = 0
  be : P.be = true → P.pr ≠ []
  no : P.be = false → P.pr = [] ∧ P.sg = [] ∧ P.at_ = 0 ∧ P.tl = "" ∧ P.an = 0
def sp__law_key : SpD := fun ds s Q _ => ∃ (c : Int) (p : Nat), ds = [.ref p] ∧ Ps c p s ∧ c ≤ 1000000 ∧ ∀ (z : Str) s', keyF (.str z) = true → Ps (c + 110) p s' → Kp p s s' → s'.length = s.length → Q (.str z) s'
theorem mono__law_key : MonoSp sp__law_key := fun _ _ _ _ _ _ f _ ⟨a, b, h1, h2, h3, h⟩ => ⟨a, b, h1, h2, h3, fun z s' a1 a2 a3 a4 => f _ _ (h z s' a1 a2 a3 a4)⟩
theorem len__law_key : ∀ ds s Q E, sp__law_key ds s Q E → ds.length = ["bag"].length := fun _ _ _ _ ⟨_, _, h, _⟩ => by rw [h]; rfl
def sp__law_reading : SpD := fun ds s Q _ => ∃ sg i t, ds = [stD sg i t] ∧ StOk sg i t ∧ Q (.str (readsT sg t)) s
theorem mono__law_reading : MonoSp sp__law_reading := fun _ _ _ _ _ _ f _ ⟨a, b, c, h1, h2, h⟩ => ⟨a, b, c, h1, h2, f _ _ h⟩
theorem len__law_reading : ∀ ds s Q E, sp__law_reading ds s Q E → ds.length = ["state"].length := fun _ _ _ _ ⟨_, _, _, h, _⟩ => by rw [h]; rfl
def sp__law_since : SpD := fun ds s Q _ => ∃ (r a : Nat) (ks : List Str), ds = [.ref r, inD a] ∧ s[r]? = some (some (.lst (ks.map D.str))) ∧ ks.length ≤ 1000 ∧ Q (.str (lettersT (ks.drop a))) s
theorem mono__law_since : MonoSp sp__law_since := fun _ _ _ _ _ _ f _ ⟨a, b, c, h1, h2, h3, h⟩ => ⟨a, b, c, h1, h2, h3, f _ _ h⟩
theorem len__law_since : ∀ ds s Q E, sp__law_since ds s Q E → ds.length = ["pressed", "answered"].length := fun _ _ _ _ ⟨_, _, _, h, _⟩ => by rw [h]; rfl
def sp__law_shown : SpD := fun ds s Q _ => ∃ (c : Int) (p : Nat) (v : D) (most : Nat), ds = [.ref p, v, inD most] ∧ Ps c p s ∧ c ≤ 1000000 ∧ most ≤ 40 ∧ ∀ sg i t s', StOk sg i t → (readsT sg t).length ≤ most → Ps (c + 1200) p s' → Kp p s s' → Q (stD sg i t) s'
theorem mono__law_shown : MonoSp sp__law_shown := fun _ _ _ _ _ _ f _ ⟨a, b, c, d, h1, h2, h3, h4, h⟩ => ⟨a, b, c, d, h1, h2, h3, h4, fun x y z s' a1 a2 a3 a4 => f _ _ (h x y z s' a1 a2 a3 a4)⟩
theorem len__law_shown : ∀ ds s Q E, sp__law_shown ds s Q E → ds.length = ["bag", "pressed", "most"].length := fun _ _ _ _ ⟨_, _, _, _, h, _⟩ => by rw [h]; rfl
def sp__law_key_right : SpD := fun ds s Q _ => ∃ (c : Int) (p l : Nat) (P : Pm) (z : Str), ds = [.ref l, .ref (l + 9), inD P.an, stD P.sg P.at_ P.tl, .str z] ∧ Wp c p l P s ∧ keyF (.str z) = true ∧ P.pr.length < 1000 ∧
  ∀ P' s', Wp c p l P' s' → P'.an = P.an ∧ P'.sg = P.sg ∧ P'.at_ = P.at_ ∧ P'.tl = P.tl ∧ P'.pr.length ≤ P.pr.length + 1 → Q (.bl true) s'
theorem mono__law_key_right : MonoSp sp__law_key_right := fun _ _ _ _ _ _ f _ ⟨a, b, c, d, e, h1, h2, h3, h4, h⟩ => ⟨a, b, c, d, e, h1, h2, h3, h4, fun x s' a1 a2 => f _ _ (h x s' a1 a2)⟩
theorem len__law_key_right : ∀ ds s Q E, sp__law_key_right ds s Q E → ds.length = ["page", "pressed", "answered", "state", "key"].length := fun _ _ _ _ ⟨_, _, _, _, _, h, _⟩ => by rw [h]; rfl
def sp_Page_hear : SpD := fun ds s Q _ => ∃ (l k : Nat) (f : Fp) (P : Pm) (nu ks : Nat) (sg : Pairs) (i : Int) (t : Str), ds = [.ref l, .tup [.str "show", inD nu, inD ks, stD sg i t]] ∧ PgAt l k f P s ∧ PmOk P ∧ StOk sg i t ∧ nu ≤ 1000000 ∧ ks ≤ 1000000 ∧ (¬ P.sees nu ks sg t → Q (.lst []) s) ∧
  (P.sees nu ks sg t → ∀ s', PgAt l k f { P with an := ks, sg := sg, at_ := i, tl := t } s' → s'.length = s.length → (∀ j, j ≠ l → s'[j]? = s[j]?) → Q (.lst []) s')
theorem mono_Page_hear : MonoSp sp_Page_hear := fun _ _ _ _ _ _ f _ ⟨a, b, c, d, nu, ks, e, i, t, h1, h2, h3, h4, h5, h6, h7, h⟩ => ⟨a, b, c, d, nu, ks, e, i, t, h1, h2, h3, h4, h5, h6, fun z => f _ _ (h7 z), fun z s' a1 a2 a3 => f _ _ (h z s' a1 a2 a3)⟩
theorem len_Page_hear : ∀ ds s Q E, sp_Page_hear ds s Q E → ds.length = ["self", "letter"].length := fun _ _ _ _ ⟨_, _, _, _, _, _, _, _, _, h, _⟩ => by rw [h]; rfl
def sp__law_told_right : SpD := fun ds s Q _ => ∃ (c : Int) (p l : Nat) (P : Pm), ds = [.ref l, .ref (l + 9), inD P.an, stD P.sg P.at_ P.tl] ∧ Wp c p l P s ∧ ∀ s', Wp c p l P s' → Q (.bl true) s'
theorem mono__law_told_right : MonoSp sp__law_told_right := fun _ _ _ _ _ _ f _ ⟨a, b, c, d, h1, h2, h⟩ => ⟨a, b, c, d, h1, h2, fun s' a1 => f _ _ (h s' a1)⟩
theorem len__law_told_right : ∀ ds s Q E, sp__law_told_right ds s Q E → ds.length = ["page", "pressed", "answered", "state"].length := fun _ _ _ _ ⟨_, _, _, _, h, _⟩ => by rw [h]; rfl
end Qk47
set_option Elab.async false
set_option linter.all false
set_option autoImplicit false
set_option maxRecDepth 100000
set_option maxHeartbeats 4000000
namespace Qk47
open PySem PySem.Spec PyProof.Rows L2 Dl
open Bk Su Pg
open Fb (Kp Ps sp__law_take mono__law_take len__law_take)
open Ba (sp__law_bag b__law_bag mono__law_bag len__law_bag pf__law_bag b__law_take pf__law_take sp__law_word b__law_word mono__law_word len__law_word pf__law_word sp__law_state b__law_state mono__law_state len__law_state pf__law_state)
open Tt hiding az AZ
open Fi (sp_is_key b_is_key mono_is_key len_is_key pf_is_key)
open Sx (sp_cells_of b_cells_of mono_cells_of len_cells_of pf_cells_of)
def hit_Full (y : Str) : Option Bool := if y = "Full" then some true else if y = "NoCommit" then some false else if y = "NoKey" then some false else if y = "NoNumber" then some false else if y = "NoState" then some false else none
def b__law_key : SD := (dSeq (dAsg (dLst (dCons (dC (.str "rub")) (dCons (dC (.str "turn")) (dCons (dC (.str "next")) (dCons (dC (.str "back")) (dCons (dC (.str "left")) (dCons (dC (.str "right")) (dCons (dC (.str "wider")) (dCons (dC (.str "narrower")) (dCons (dC (.str "plain")) (dCons (dC (.str "turn")) dNil))))))))))) (gN 1))
  (dSeq (dAsg (dCall sp__law_take [] (dCons (dVar 0) (dCons (dC (.int 16)) dNil))) (gN 2))
  (dRet (dIf (dTest (dBin (oF ltF) (dVar 2) (dC (.int 10)))) (dBin (oF idxF) (dVar 1) (dVar 2)) (dCall sp__law_word [] (dCons (dVar 0) (dCons (dC (.int 1)) dNil)))))))
def b__law_reading : SD := (dRet (dBin (oF addF) (dJoin (dC (.str "")) (dLc (iW (dBin (oF idxF) (dVar 0) (dC (.int 0)))) (CT.g (.many [1, 2])) dYes (dVar 1) [1, 2])) (dBin (oF idxF) (dVar 0) (dC (.int 2)))))
def b__law_since : SD := (dRet (dJoin (dC (.str "")) (dLc (iW (dSl (dVar 0) (dP (dVar 1)) dNoP)) (CT.g (.one 2)) (dTest (dBin (oF eqF) (dCB lenF (dCons (dVar 2) dNil)) (dC (.int 1)))) (dVar 2) [2])))
def b__law_key_right : SD := (dSeq (dAsg (dC .non) (gN 5))
  (dSeq (dAsg (dC (.bl false)) (gN 6))
  (dSeq (dTryO noW hit_Full (fun W => (dAsg (dMeth W "Page" "key" sp_Page_key [] (dVar 0) (dCons (dVar 4) dNil)) (gN 5))) (dAsg (dC (.bl true)) (gN 6)))
  (dSeq (dAsg (dCB lenF (dCons (dBin (oF addF) (dCall sp__law_reading [] (dCons (dVar 3) dNil)) (dCall sp__law_since [] (dCons (dVar 1) (dCons (dVar 2) dNil)))) dNil)) (gN 7))
  (dSeq (dAsg (dAndV (dBin (oF eqF) (dCB lenF (dCons (dVar 4) dNil)) (dC (.int 1))) (dAndV (dBin (oF neF) (dVar 1) (dLst dNil)) (dBin (oF gtBF) (dVar 7) (dC (.int 39))))) (gN 8))
  (dSeq (dIfS (dOr (dTest (dVar 6)) (dTest (dVar 8))) (dRet (dAndV (dVar 6) (dVar 8))) dNext)
  (dSeq (dIfS (dAnd (dTest (dBin (oF eqF) (dVar 1) (dLst dNil))) (dTest (dBin (oF gtBF) (dCB lenF (dCons (dVar 4) dNil)) (dC (.int 1))))) (dRet (dBin (oF eqF) (dVar 5) (dLst dNil))) dNext)
  (dSeq (dDrop (dMt fAppend (dVar 1) (dCons (dVar 4) dNil)))
  (dRet (dBin (oF eqF) (dVar 5) (dLst (dCons (dTup (dCons (dC (.str "key")) (dCons (dC (.int 0)) (dCons (dCB lenF (dCons (dVar 1) dNil)) (dCons (dVar 4) dNil))))) dNil))))))))))))
def b__law_shown : SD := (dSeq (dAsg (dCall sp__law_state [] (dCons (dVar 0) (dCons (dTup (dCons (dLst dNil) (dCons (dLst dNil) dNil))) dNil))) (gN 3))
  (dSeq (dWhile (dTest (dBin (oF gtBF) (dCB lenF (dCons (dCall sp__law_reading [] (dCons (dVar 3) dNil)) dNil)) (dVar 2))) (dSeq (dAsg (dVar 3) (gTs [4, 5, 6]))
  (dSeq (dIfS (dTest (dBin (oF eqF) (dVar 6) (dC (.str "")))) (dPar2 4 5 (dCons (dSl (dVar 4) dNoP (dP (dUn negF (dC (.int 1))))) (dCons (dC (.int 0)) dNil))) dNext)
  (dAsg (dTup (dCons (dVar 4) (dCons (dVar 5) (dCons (dIf (dTest (dBin (oF gtBF) (dCB lenF (dCons (dVar 6) dNil)) (dBin oDiv (dVar 2) (dC (.int 2))))) (dSl (dVar 6) dNoP (dP (dBin oDiv (dVar 2) (dC (.int 2))))) (dC (.str ""))) dNil)))) (gN 3)))))
  (dRet (dVar 3))))
def b_Page_hear (W : WXD) : SD := (dSeq (dIfS (dAnd (dTest (dCall sp_is_letter [] (dCons (dVar 1) (dCons (dC (.str "show")) (dCons (dC (.int 3)) dNil))))) (dAnd (dTest (dCall sp_is_count [] (dCons (dBin (oF idxF) (dVar 1) (dC (.int 1))) dNil))) (dAnd (dTest (dCall sp_is_count [] (dCons (dBin (oF idxF) (dVar 1) (dC (.int 2))) dNil))) (dTest (dCall sp_is_state [] (dCons (dBin (oF idxF) (dVar 1) (dC (.int 3))) dNil)))))) (dSeq (dDrop (dMeth W "Page" "see" sp_Page_see [] (dVar 0) (dCons (dBin (oF idxF) (dVar 1) (dC (.int 1))) (dCons (dBin (oF idxF) (dVar 1) (dC (.int 2))) (dCons (dBin (oF idxF) (dVar 1) (dC (.int 3))) dNil)))))
  (dRet (dLst dNil))) dNext)
  (dSeq dNever
  (dSeq dNever
  (dSeq dNever
  (dSeq dNever
  dNever)))))
def b__law_told_right : SD := (dSeq (dAsg (dBin (oF addF) (dJoin (dC (.str "")) (dLc (iW (dBin (oF idxF) (dVar 3) (dC (.int 0)))) (CT.g (.many [5, 6])) dYes (dVar 6) [5, 6])) (dBin (oF idxF) (dVar 3) (dC (.int 2)))) (gN 4))
  (dSeq (dAsg (dBin (oF addF) (dVar 4) (dCall sp__law_since [] (dCons (dVar 1) (dCons (dVar 2) dNil)))) (gN 4))
  (dSeq (dIfS (dTest (dBin (oF neF) (dMeth noW "Page" "composed" sp_Page_composed [] (dVar 0) dNil) (dBin (oF idxF) (dLst (dCons (dTup (dCons (dC (.int 0)) (dCons (dCB lenF (dCons (dVar 1) dNil)) (dCons (dVar 2) dNil)))) (dCons (dC .non) dNil))) (dCB intF (dCons (dBin (oF eqF) (dVar 1) (dLst dNil)) dNil))))) (dRet (dC (.bl false))) dNext)
  (dSeq (dIfS (dOr (dTest (dBin (oF neF) (dMeth noW "Page" "shown" sp_Page_shown [] (dVar 0) dNil) (dVar 3))) (dOr (dTest (dBin (oF neF) (dMeth noW "Page" "text" sp_Page_text [] (dVar 0) dNil) (dVar 4))) (dTest (dBin (oF neF) (dMeth noW "Page" "display" sp_Page_display [] (dVar 0) dNil) (dVar 4))))) (dRet (dC (.bl false))) dNext)
  (dRet (dBin (oF eqF) (dLst (dCons (dMeth noW "Page" "caret" sp_Page_caret [] (dVar 0) dNil) (dCons (dMeth noW "Page" "covered" sp_Page_covered [] (dVar 0) dNil) (dCons (dMeth noW "Page" "cells" sp_Page_cells [] (dVar 0) dNil) (dCons (dMeth noW "Page" "words" sp_Page_words [] (dVar 0) dNil) (dCons (dMeth noW "Page" "steps" sp_Page_steps [] (dVar 0) dNil) dNil)))))) (dLst (dCons (dC (.int 0)) (dCons (dC (.int 0)) (dCons (dLst dNil) (dCons (dLst dNil) (dCons (dTup (dCons (dC (.int 0)) (dCons (dC (.int 0)) dNil))) dNil))))))))))))
def b_law : SD := (dSeq (dFor (iR1 (dCons (dCB max2F (dCons (dC (.int 1)) (dCons (dCB min2F (dCons (dC (.int 10)) (dCons (dCB lenF (dCons (dVar 0) dNil)) dNil))) dNil))) dNil)) (gN 1) (dSeq (dAsg (dCall sp__law_bag [] (dCons (dVar 0) (dCons (dVar 1) dNil))) (gN 2))
  (dSeq (dAsg (dMake "Page" sp_Page___init__) (gN 3))
  (dSeq (dPar3 4 5 6 (dCons (dNew dNil) (dCons (dC (.int 0)) (dCons (dTup (dCons (dTup dNil) (dCons (dC (.int 0)) (dCons (dC (.str "")) dNil)))) dNil))))
  (dSeq (dAsg (dBin (oF eqF) (dCall sp__law_take [] (dCons (dVar 2) (dCons (dC (.int 4)) dNil))) (dC (.int 0))) (gN 7))
  (dFor (iR1 (dCons (dBin (oF idxF) (dLst (dCons (dC (.int 30)) (dCons (dC (.int 100)) dNil))) (dCB intF (dCons (dVar 7) dNil))) dNil)) (gN 8) (dSeq (dAsg (dIf (dTest (dVar 7)) (dCall sp__law_word [] (dCons (dVar 2) (dCons (dC (.int 1)) dNil))) (dCall sp__law_key [] (dCons (dVar 2) dNil))) (gN 9))
  (dSeq (dIfS (dNot (dTest (dCall sp__law_key_right [] (dCons (dVar 3) (dCons (dVar 4) (dCons (dVar 5) (dCons (dVar 6) (dCons (dVar 9) dNil)))))))) (dRet (dC (.bl false))) dNext)
  (dSeq (dIfS (dAnd (dTest (dBin (oF ltF) (dVar 5) (dCB lenF (dCons (dVar 4) dNil)))) (dTest (dBin (oF eqF) (dCall sp__law_take [] (dCons (dVar 2) (dCons (dC (.int 5)) dNil))) (dC (.int 0))))) (dSeq (dAsg (dBin (oF addF) (dBin (oF addF) (dVar 5) (dC (.int 1))) (dCall sp__law_take [] (dCons (dVar 2) (dCons (dBin (oF subF) (dCB lenF (dCons (dVar 4) dNil)) (dVar 5)) dNil)))) (gN 10))
  (dSeq (dAsg (dCall sp__law_shown [] (dCons (dVar 2) (dCons (dVar 4) (dCons (dCB max2F (dCons (dC (.int 0)) (dCons (dBin (oF subF) (dC (.int 40)) (dCB lenF (dCons (dCall sp__law_since [] (dCons (dVar 4) (dCons (dVar 10) dNil))) dNil))) dNil))) dNil)))) (gN 11))
  (dSeq (dIfS (dTest (dBin (oF neF) (dMeth noW "Page" "hear" sp_Page_hear [] (dVar 3) (dCons (dTup (dCons (dC (.str "show")) (dCons (dC (.int 0)) (dCons (dVar 10) (dCons (dVar 11) dNil))))) dNil)) (dLst dNil))) (dRet (dC (.bl false))) dNext)
  (dPar2 5 6 (dCons (dVar 10) (dCons (dVar 11) dNil)))))) dNext)
  (dIfS (dNot (dTest (dCall sp__law_told_right [] (dCons (dVar 3) (dCons (dVar 4) (dCons (dVar 5) (dCons (dVar 6) dNil))))))) (dRet (dC (.bl false))) dNext))))))))))
  (dRet (dC (.bl true))))
end Qk47
set_option Elab.async false
set_option linter.all false
set_option autoImplicit false
set_option maxRecDepth 100000
set_option maxHeartbeats 4000000
namespace Qk47
open PySem PySem.Spec PyProof.Rows L2 Dl
open Bk Su Pg
open Fb (Kp Ps sp__law_take mono__law_take len__law_take)
open Ba (sp__law_bag b__law_bag mono__law_bag len__law_bag pf__law_bag b__law_take pf__law_take sp__law_word b__law_word mono__law_word len__law_word pf__law_word sp__law_state b__law_state mono__law_state len__law_state pf__law_state)
open Tt hiding az AZ
open Fi (sp_is_key b_is_key mono_is_key len_is_key pf_is_key)
open Sx (sp_cells_of b_cells_of mono_cells_of len_cells_of pf_cells_of)
def top (i : Nat) : Stmt := PySem.Challenge.pw_asshown_k47_keys_at_a_page.main.body.getD i (.Pass ⟨0, 0, 0, 0⟩)
def clsB : Stmt → List Stmt
  | .ClassDef (body := b) .. => b
  | _ => []
def topM (i j : Nat) : Stmt := (clsB (top i)).getD j (.Pass ⟨0, 0, 0, 0⟩)
structure Tx (K : PySem.W.Frag) (mg : Str → Option Value) : Prop where
  o_Full : ∃ C, OwnX K mg "Full" C
  o_NoCommit : ∃ C, OwnX K mg "NoCommit" C
  o_NoKey : ∃ C, OwnX K mg "NoKey" C
  o_NoNumber : ∃ C, OwnX K mg "NoNumber" C
  o_NoState : ∃ C, OwnX K mg "NoState" C
  f_Page_answered : HasF K "Page" "answered"
  f_Page_begun : HasF K "Page" "begun"
  f_Page_latest : HasF K "Page" "latest"
  f_Page_number : HasF K "Page" "number"
  f_Page_pressed : HasF K "Page" "pressed"
  f_Page_site : HasF K "Page" "site"
  f_Sheet_cell_row : HasF K "Sheet" "cell_row"
  f_Sheet_later : HasF K "Sheet" "later"
  f_Sheet_pair_rows : HasF K "Sheet" "pair_rows"
  f_Sheet_past : HasF K "Sheet" "past"
  f_Sheet_upright : HasF K "Sheet" "upright"
  f_Site_caret_at : HasF K "Site" "caret_at"
  f_Site_covered_many : HasF K "Site" "covered_many"
  f_Site_sheet : HasF K "Site" "sheet"
  h_Full : ∃ C, HitX K mg "Full" C hit_Full
  n_all : mg "all" = none
  n_bool : mg "bool" = none
  n_enumerate : mg "enumerate" = none
  n_int : mg "int" = none
  n_isinstance : mg "isinstance" = none
  n_len : mg "len" = none
  n_list : mg "list" = none
  n_max : mg "max" = none
  n_min : mg "min" = none
  n_range : mg "range" = none
  n_str : mg "str" = none
  n_sum : mg "sum" = none
  n_tuple : mg "tuple" = none
  c_LARGE : ∃ t, mg "LARGE" = some (.str "ABCDEFGHIJKLMNOPQRSTUVWXYZ" t)
  c_LETTERS : ∃ t, mg "LETTERS" = some (.str "abcdefghijklmnopqrstuvwxyz" t)
  c_LONGEST : ∃ t, mg "LONGEST" = some (.int 12 t)
  c_MOST : ∃ t, mg "MOST" = some (.int 40 t)
  c_NAMED : WrT K mg "NAMED" ["rub", "turn", "next", "back", "left", "right", "wider", "narrower", "plain"]
  c_NOTHING : NoTh K mg "NOTHING"
  c_SMALL : ∃ t, mg "SMALL" = some (.str "abcdefghijklmnopqrstuvwxyz" t)
abbrev s__law_bag : Stmt := top 45
theorem sc__law_bag : FnScope ["script", "k", "cell"] ["script", "k"] (defScope s__law_bag) := ⟨rfl, rfl, rfl, by decide +kernel, rfl, by decide +kernel, by decide +kernel⟩
theorem d__law_bag {P : Program} {w : World} {K : PySem.W.Frag} {mg : Str → Option Value} {base : Heap} (T : Tx K mg) (f : Addr) (cdv : Value) (A : Around) (outer : List PySem.Env) (s : Shared) (H : Hp) (E : XK) (hr : RoomG 0 (A.deeper (envOfC "_law_bag" (defScope s__law_bag) s.heap.objs.size f cdv))) :
    PSsD (dx0 (cxOf CX0 P w K mg base ["script", "k", "cell"] "_law_bag" (defScope s__law_bag) f cdv A outer s H E).nox) (defBody s__law_bag) b__law_bag :=
  have hu := hr.units
  (pssd_cons (psd_set (i := 2) sc__law_bag.nd rfl (by first | exact Or.inl rfl | exact Or.inr rfl) pd_int)
      (pssd_cons (psd_if (ptd_cmp opx_lt mono_oF (pd_var 1 (pv 1)) (pd_callB callx_len rfl T.n_len (show bootBuiltins "len" = some (.builtin "len") by decide +kernel) (pad_cons (pd_var 0 (pv 0)) pad_nil)) (nomark _)) (pssd_one (psd_set (i := 2) sc__law_bag.nd rfl (by first | exact Or.inl rfl | exact Or.inr rfl) (pd_ix (pd_var 0 (pv 0)) (pd_var 1 (pv 1)) (fun _ _ => by with_unfolding_all rfl)))) pssd_nil)
      (pssd_one (psd_ret (pd_new (pad_cons (pd_callB (callx_max2 rfl) rfl T.n_max (show bootBuiltins "max" = some (.builtin "max") by decide +kernel) (pad_cons pd_int (pad_cons (pd_bin opx_sub mono_oF (pd_var 2 (pv 2)) (pd_bin opx_pow mono_iic pd_int pd_int)) pad_nil))) (pad_cons (pd_bin opx_mod mono_iic (pd_var 2 (pv 2)) (pd_bin opx_add mono_oF (pd_bin opx_pow mono_iic pd_int pd_int) pd_int)) (pad_cons (pd_bin opx_mul (mono_oOr mono_iic mono_oF) pd_int (pd_var 1 (pv 1))) pad_nil))))))))
abbrev s_Sheet___init__ : Stmt := topM 38 0
theorem sc_Sheet___init__ : FnScope ["self"] ["self"] (defScope s_Sheet___init__) := ⟨rfl, rfl, rfl, by decide +kernel, rfl, by decide +kernel, by decide +kernel⟩
theorem d_Sheet___init__ {P : Program} {w : World} {K : PySem.W.Frag} {mg : Str → Option Value} {base : Heap} (T : Tx K mg) (f : Addr) (cdv : Value) (A : Around) (outer : List PySem.Env) (s : Shared) (H : Hp) (E : XK) (hr : RoomG 0 (A.deeper (envOfC "Sheet.__init__" (defScope s_Sheet___init__) s.heap.objs.size f cdv))) :
    PSsD (dx0 (cxOf CX0 P w K mg base ["self"] "Sheet.__init__" (defScope s_Sheet___init__) f cdv A outer s H E).nox) (defBody s_Sheet___init__) b_Sheet___init__ :=
  have hu := hr.units
  (pssd_cons (psd_fld T.f_Sheet_cell_row (pd_var 0 (pv 0)) (pd_new pad_nil))
      (pssd_cons (psd_fld T.f_Sheet_pair_rows (pd_var 0 (pv 0)) pd_dnewK)
      (pssd_cons (psd_fld T.f_Sheet_upright (pd_var 0 (pv 0)) (pd_new pad_nil))
      (pssd_cons (psd_fld T.f_Sheet_past (pd_var 0 (pv 0)) (pd_new pad_nil))
      (pssd_one (psd_fld T.f_Sheet_later (pd_var 0 (pv 0)) (pd_new pad_nil)))))))
abbrev s_Site___init__ : Stmt := topM 40 0
theorem sc_Site___init__ : FnScope ["self"] ["self"] (defScope s_Site___init__) := ⟨rfl, rfl, rfl, by decide +kernel, rfl, by decide +kernel, by decide +kernel⟩
theorem d_Site___init__ {P : Program} {w : World} {K : PySem.W.Frag} {mg : Str → Option Value} {base : Heap} (T : Tx K mg) (c_Sheet___init__ : KnI P w K mg base "Sheet" 1 ["self"] sp_Sheet___init__) (f : Addr) (cdv : Value) (A : Around) (outer : List PySem.Env) (s : Shared) (H : Hp) (E : XK) (hr : RoomG 2 (A.deeper (envOfC "Site.__init__" (defScope s_Site___init__) s.heap.objs.size f cdv))) :
    PSsD (dx0 (cxOf CX0 P w K mg base ["self"] "Site.__init__" (defScope s_Site___init__) f cdv A outer s H E).nox) (defBody s_Site___init__) b_Site___init__ :=
  have hu := hr.units
  (pssd_cons (psd_fld T.f_Site_sheet (pd_var 0 (pv 0)) (pd_make0 c_Sheet___init__ hr rfl))
      (pssd_cons (psd_fld T.f_Site_caret_at (pd_var 0 (pv 0)) pd_int)
      (pssd_one (psd_fld T.f_Site_covered_many (pd_var 0 (pv 0)) pd_int))))
abbrev s_Page___init__ : Stmt := topM 43 0
theorem sc_Page___init__ : FnScope ["self"] ["self"] (defScope s_Page___init__) := ⟨rfl, rfl, rfl, by decide +kernel, rfl, by decide +kernel, by decide +kernel⟩
theorem d_Page___init__ {P : Program} {w : World} {K : PySem.W.Frag} {mg : Str → Option Value} {base : Heap} (T : Tx K mg) (c_Site___init__ : KnI P w K mg base "Site" 3 ["self"] sp_Site___init__) (f : Addr) (cdv : Value) (A : Around) (outer : List PySem.Env) (s : Shared) (H : Hp) (E : XK) (hr : RoomG 4 (A.deeper (envOfC "Page.__init__" (defScope s_Page___init__) s.heap.objs.size f cdv))) :
    PSsD (dx0 (cxOf CX0 P w K mg base ["self"] "Page.__init__" (defScope s_Page___init__) f cdv A outer s H E).nox) (defBody s_Page___init__) b_Page___init__ :=
  have hu := hr.units
  (pssd_cons (psd_fld T.f_Page_site (pd_var 0 (pv 0)) (pd_make0 c_Site___init__ hr rfl))
      (pssd_cons (psd_fld T.f_Page_begun (pd_var 0 (pv 0)) pd_bl)
      (pssd_cons (psd_fld T.f_Page_number (pd_var 0 (pv 0)) pd_int)
      (pssd_cons (psd_fld T.f_Page_pressed (pd_var 0 (pv 0)) (pd_new pad_nil))
      (pssd_cons (psd_fld T.f_Page_answered (pd_var 0 (pv 0)) pd_int)
      (pssd_one (psd_fld T.f_Page_latest (pd_var 0 (pv 0)) (pd_noth rfl T.c_NOTHING))))))))
abbrev s__law_take : Stmt := top 46
theorem sc__law_take : FnScope ["bag", "many", "mark", "found"] ["bag", "many"] (defScope s__law_take) := ⟨rfl, rfl, rfl, by decide +kernel, rfl, by decide +kernel, by decide +kernel⟩
theorem d__law_take {P : Program} {w : World} {K : PySem.W.Frag} {mg : Str → Option Value} {base : Heap} (T : Tx K mg) (f : Addr) (cdv : Value) (A : Around) (outer : List PySem.Env) (s : Shared) (H : Hp) (E : XK) (hr : RoomG 0 (A.deeper (envOfC "_law_take" (defScope s__law_take) s.heap.objs.size f cdv))) :
    PSsD (dx0 (cxOf CX0 P w K mg base ["bag", "many", "mark", "found"] "_law_take" (defScope s__law_take) f cdv A outer s H E).nox) (defBody s__law_take) b__law_take :=
  have hu := hr.units
  (pssd_cons (psd_if (ptd_cmp opx_gtB mono_oF (pd_ix (pd_var 0 (pv 0)) pd_int (fun _ _ => by with_unfolding_all rfl)) pd_int (nomark _)) (pssd_cons (psd_set (i := 3) sc__law_take.nd rfl (by first | exact Or.inl rfl | exact Or.inr rfl) (pd_bin opx_mod mono_iic (pd_ix (pd_var 0 (pv 0)) pd_int (fun _ _ => by with_unfolding_all rfl)) (pd_var 1 (pv 1))))
      (pssd_cons (psd_asg (pd_bin opx_fdiv mono_iic (pd_ix (pd_var 0 (pv 0)) pd_int (fun _ _ => by with_unfolding_all rfl)) (pd_var 1 (pv 1))) (pgd_ix (pd_var 0 (pv 0)) pd_int))
      (pssd_one (psd_ret (pd_var 3 (pv 3)))))) pssd_nil)
      (pssd_cons (psd_asg (pd_bin opx_add mono_oF (pd_ix (pd_var 0 (pv 0)) pd_int (fun _ _ => by with_unfolding_all rfl)) pd_int) (pgd_ix (pd_var 0 (pv 0)) pd_int))
      (pssd_cons (psd_set (i := 2) sc__law_take.nd rfl (by first | exact Or.inl rfl | exact Or.inr rfl) (pd_bin opx_add mono_oF (pd_bin opx_mul (mono_oOr mono_iic mono_oF) (pd_bin opx_add mono_oF (pd_ix (pd_var 0 (pv 0)) pd_int (fun _ _ => by with_unfolding_all rfl)) pd_int) (pd_bin opx_add mono_oF (pd_bin opx_mul (mono_oOr mono_iic mono_oF) pd_int (pd_ix (pd_var 0 (pv 0)) pd_int (fun _ _ => by with_unfolding_all rfl))) pd_int)) (pd_bin opx_mul (mono_oOr mono_iic mono_oF) (pd_bin opx_mul (mono_oOr mono_iic mono_oF) pd_int (pd_ix (pd_var 0 (pv 0)) pd_int (fun _ _ => by with_unfolding_all rfl))) (pd_ix (pd_var 0 (pv 0)) pd_int (fun _ _ => by with_unfolding_all rfl)))))
      (pssd_cons (psd_set (i := 2) sc__law_take.nd rfl (by first | exact Or.inl rfl | exact Or.inr rfl) (pd_bin opx_mod mono_iic (pd_bin opx_mul (mono_oOr mono_iic mono_oF) (pd_var 2 (pv 2)) (pd_var 2 (pv 2))) (pd_bin opx_add mono_oF (pd_bin opx_pow mono_iic pd_int pd_int) pd_int)))
      (pssd_one (psd_ret (pd_bin opx_mod mono_iic (pd_bin opx_fdiv mono_iic (pd_bin opx_mod mono_iic (pd_bin opx_mul (mono_oOr mono_iic mono_oF) (pd_var 2 (pv 2)) (pd_bin opx_add mono_oF (pd_var 2 (pv 2)) pd_int)) (pd_bin opx_add mono_oF (pd_bin opx_pow mono_iic pd_int pd_int) pd_int)) pd_int) (pd_var 1 (pv 1)))))))))
abbrev s__law_word : Stmt := top 47
abbrev N__law_word : List Str := ["bag", "most", "letters", "turn"]
theorem sc__law_word : FnScope ["bag", "most", "letters", "turn"] ["bag", "most"] (defScope s__law_word) := ⟨rfl, rfl, rfl, by decide +kernel, rfl, by decide +kernel, by decide +kernel⟩
theorem d__law_word {P : Program} {w : World} {K : PySem.W.Frag} {mg : Str → Option Value} {base : Heap} (T : Tx K mg) (c__law_take : Kn P w K mg base "_law_take" 1 ["bag", "many"] sp__law_take) (f : Addr) (cdv : Value) (A : Around) (outer : List PySem.Env) (s : Shared) (H : Hp) (E : XK) (hr : RoomG 1 (A.deeper (envOfC "_law_word" (defScope s__law_word) s.heap.objs.size f cdv))) :
    PSsD (dx0 (cxOf CX0 P w K mg base ["bag", "most", "letters", "turn"] "_law_word" (defScope s__law_word) f cdv A outer s H E).nox) (defBody s__law_word) b__law_word :=
  have hu := hr.units
  (pssd_cons (psd_set (i := 2) sc__law_word.nd rfl (by first | exact Or.inl rfl | exact Or.inr rfl) (pd_ix (pd_lst (pad_cons pd_str (pad_cons pd_str (pad_cons pd_str (pad_cons pd_str (pad_cons pd_str pad_nil)))))) (pd_kn c__law_take hr rfl (pad_cons (pd_var 0 (pv 0)) (pad_cons pd_int pad_nil))) (fun _ _ => by with_unfolding_all rfl)))
      (pssd_one (psd_ret (pd_join pd_str (pd_lc (own := [("turn", 3)]) (.one 3) rfl sc__law_word.nd (pid_range1 rfl T.n_range (pad_cons (pd_bin opx_add mono_oF pd_int (pd_kn c__law_take hr rfl (pad_cons (pd_var 0 (pv 0)) (pad_cons (pd_var 1 (pv 1)) pad_nil)))) pad_nil)) (blkOk_by (N := N__law_word) (sc := defScope s__law_word) (own := [("turn", 3)]) (by decide +kernel)) ⟨fun _ _ _ _ _ => (pg_name (i := 3) sc__law_word.nd rfl (by first | exact Or.inl rfl | exact Or.inr rfl)), fun _ _ _ _ _ => ptsd_nil, fun _ _ _ _ _ => (pd_ix (pd_var 2 (pv 2)) (pd_kn c__law_take hr rfl (pad_cons (pd_var 0 (pv 0)) (pad_cons (pd_callB callx_len rfl T.n_len (show bootBuiltins "len" = some (.builtin "len") by decide +kernel) (pad_cons (pd_var 2 (pv 2)) pad_nil)) pad_nil))) (fun _ _ => by with_unfolding_all rfl))⟩ (by decide))))))
abbrev s__law_key : Stmt := top 49
theorem sc__law_key : FnScope ["bag", "names", "turn"] ["bag"] (defScope s__law_key) := ⟨rfl, rfl, rfl, by decide +kernel, rfl, by decide +kernel, by decide +kernel⟩
theorem d__law_key {P : Program} {w : World} {K : PySem.W.Frag} {mg : Str → Option Value} {base : Heap} (T : Tx K mg) (c__law_take : Kn P w K mg base "_law_take" 1 ["bag", "many"] sp__law_take) (c__law_word : Kn P w K mg base "_law_word" 2 ["bag", "most"] sp__law_word) (f : Addr) (cdv : Value) (A : Around) (outer : List PySem.Env) (s : Shared) (H : Hp) (E : XK) (hr : RoomG 2 (A.deeper (envOfC "_law_key" (defScope s__law_key) s.heap.objs.size f cdv))) :
    PSsD (dx0 (cxOf CX0 P w K mg base ["bag", "names", "turn"] "_law_key" (defScope s__law_key) f cdv A outer s H E).nox) (defBody s__law_key) b__law_key :=
  have hu := hr.units
  (pssd_cons (psd_set (i := 1) sc__law_key.nd rfl (by first | exact Or.inl rfl | exact Or.inr rfl) (pd_lst (pad_cons pd_str (pad_cons pd_str (pad_cons pd_str (pad_cons pd_str (pad_cons pd_str (pad_cons pd_str (pad_cons pd_str (pad_cons pd_str (pad_cons pd_str (pad_cons pd_str pad_nil))))))))))))
      (pssd_cons (psd_set (i := 2) sc__law_key.nd rfl (by first | exact Or.inl rfl | exact Or.inr rfl) (pd_kn c__law_take (hr.mono (by decide)) rfl (pad_cons (pd_var 0 (pv 0)) (pad_cons pd_int pad_nil))))
      (pssd_one (psd_ret (pd_if (ptd_cmp opx_lt mono_oF (pd_var 2 (pv 2)) pd_int (nomark _)) (pd_ix (pd_var 1 (pv 1)) (pd_var 2 (pv 2)) (fun _ _ => by with_unfolding_all rfl)) (pd_kn c__law_word hr rfl (pad_cons (pd_var 0 (pv 0)) (pad_cons pd_int pad_nil))))))))
abbrev s_is_key : Stmt := top 27
theorem sc_is_key : FnScope ["thing"] ["thing"] (defScope s_is_key) := ⟨rfl, rfl, rfl, by decide +kernel, rfl, by decide +kernel, by decide +kernel⟩
theorem d_is_key {P : Program} {w : World} {K : PySem.W.Frag} {mg : Str → Option Value} {base : Heap} (T : Tx K mg) (f : Addr) (cdv : Value) (A : Around) (outer : List PySem.Env) (s : Shared) (H : Hp) (E : XK) (hr : RoomG 0 (A.deeper (envOfC "is_key" (defScope s_is_key) s.heap.objs.size f cdv))) :
    PSsD (dx0 (cxOf CX0 P w K mg base ["thing"] "is_key" (defScope s_is_key) f cdv A outer s H E).nox) (defBody s_is_key) b_is_key :=
  have hu := hr.units
  (pssd_cons (psd_if (ptd_not (ptd_val (pd_isi rfl T.n_isinstance rfl T.n_str (show bootBuiltins "str" = some (.type "str") by decide +kernel) (by decide) (pd_var 0 (pv 0))))) (pssd_one (psd_ret pd_bl)) pssd_nil)
      (pssd_one (psd_ret (pd_or (pd_inC hu rfl T.c_NAMED (pd_var 0 (pv 0)) (by with_unfolding_all rfl)) (pd_one (pd_and (pd_cmp (opx_eq hu) mono_oF (pd_callB callx_len rfl T.n_len (show bootBuiltins "len" = some (.builtin "len") by decide +kernel) (pad_cons (pd_var 0 (pv 0)) pad_nil)) pd_int (nomark _)) (pd_one (pd_cmp (opx_inA hu) (mono_oOr mono_oInS mono_oIn) (pd_var 0 (pv 0)) (pd_gstrE rfl T.c_LETTERS) (by with_unfolding_all rfl)))))))))
abbrev s_need_key : Stmt := top 29
theorem sc_need_key : FnScope ["thing"] ["thing"] (defScope s_need_key) := ⟨rfl, rfl, rfl, by decide +kernel, rfl, by decide +kernel, by decide +kernel⟩
theorem d_need_key {P : Program} {w : World} {K : PySem.W.Frag} {mg : Str → Option Value} {base : Heap} (T : Tx K mg) (c_is_key : Kn P w K mg base "is_key" 1 ["thing"] sp_is_key) (f : Addr) (cdv : Value) (A : Around) (outer : List PySem.Env) (s : Shared) (H : Hp) (E : XK) (B0 A0 : List Addr) (s0 : Sto) (hr : RoomG 1 (A.deeper (envOfC "need_key" (defScope s_need_key) s.heap.objs.size f cdv))) :
    PSsD (dxR P w K mg base ["thing"] "need_key" (defScope s_need_key) f cdv A outer s H E rfl B0 A0 s0) (defBody s_need_key) (b_need_key fun y fs _ s' => PostX K mg B0 H A0 s0 E y fs s') :=
  have hu := hr.units
  (pssd_one (psd_if (ptd_not (ptd_val (pd_kn c_is_key hr rfl (pad_cons (pd_var 0 (pv 0)) pad_nil)))) (pssd_one (psd_raise rfl T.o_NoKey.choose_spec rfl)) pssd_nil))
abbrev s_Page_begin : Stmt := topM 43 3
theorem sc_Page_begin : FnScope ["self", "state"] ["self", "state"] (defScope s_Page_begin) := ⟨rfl, rfl, rfl, by decide +kernel, rfl, by decide +kernel, by decide +kernel⟩
theorem d_Page_begin {P : Program} {w : World} {K : PySem.W.Frag} {mg : Str → Option Value} {base : Heap} (T : Tx K mg) (f : Addr) (cdv : Value) (A : Around) (outer : List PySem.Env) (s : Shared) (H : Hp) (E : XK) (hr : RoomG 0 (A.deeper (envOfC "Page.begin" (defScope s_Page_begin) s.heap.objs.size f cdv))) :
    PSsD (dx0 (cxOf CX0 P w K mg base ["self", "state"] "Page.begin" (defScope s_Page_begin) f cdv A outer s H E).nox) (defBody s_Page_begin) b_Page_begin :=
  have hu := hr.units
  (pssd_cons (psd_fld T.f_Page_begun (pd_var 0 (pv 0)) pd_bl)
      (pssd_one (psd_fld T.f_Page_latest (pd_var 0 (pv 0)) (pd_var 1 (pv 1)))))
abbrev s_is_small : Stmt := top 19
abbrev N_is_small : List Str := ["thing", "sign"]
theorem sc_is_small : FnScope ["thing", "sign"] ["thing"] (defScope s_is_small) := ⟨rfl, rfl, rfl, by decide +kernel, rfl, by decide +kernel, by decide +kernel⟩
theorem d_is_small {P : Program} {w : World} {K : PySem.W.Frag} {mg : Str → Option Value} {base : Heap} (T : Tx K mg) (f : Addr) (cdv : Value) (A : Around) (outer : List PySem.Env) (s : Shared) (H : Hp) (E : XK) (hr : RoomG 0 (A.deeper (envOfC "is_small" (defScope s_is_small) s.heap.objs.size f cdv))) :
    PSsD (dx0 (cxOf CX0 P w K mg base ["thing", "sign"] "is_small" (defScope s_is_small) f cdv A outer s H E).nox) (defBody s_is_small) b_is_small :=
  have hu := hr.units
  (pssd_one (psd_ret (pd_and (pd_isi rfl T.n_isinstance rfl T.n_str (show bootBuiltins "str" = some (.type "str") by decide +kernel) (by decide) (pd_var 0 (pv 0))) (pd_one (pd_callB (callx_all rfl) rfl T.n_all (show bootBuiltins "all" = some (.builtin "all") by decide +kernel) (pad_cons (pd_lc (own := [("sign", 1)]) (.one 1) rfl sc_is_small.nd (pid_any (pd_var 0 (pv 0))) (blkOk_by (N := N_is_small) (sc := defScope s_is_small) (own := [("sign", 1)]) (by decide +kernel)) ⟨fun _ _ _ _ _ => (pg_name (i := 1) sc_is_small.nd rfl (by first | exact Or.inl rfl | exact Or.inr rfl)), fun _ _ _ _ _ => ptsd_nil, fun _ _ _ _ _ => (pd_cmp (opx_inA hu) (mono_oOr mono_oInS mono_oIn) (pd_var 1 (pv 1)) (pd_gstrE rfl T.c_SMALL) (by with_unfolding_all rfl))⟩ (by decide)) pad_nil))))))
abbrev s_is_reading : Stmt := top 20
theorem sc_is_reading : FnScope ["thing"] ["thing"] (defScope s_is_reading) := ⟨rfl, rfl, rfl, by decide +kernel, rfl, by decide +kernel, by decide +kernel⟩
theorem d_is_reading {P : Program} {w : World} {K : PySem.W.Frag} {mg : Str → Option Value} {base : Heap} (T : Tx K mg) (c_is_small : Kn P w K mg base "is_small" 1 ["thing"] sp_is_small) (f : Addr) (cdv : Value) (A : Around) (outer : List PySem.Env) (s : Shared) (H : Hp) (E : XK) (hr : RoomG 1 (A.deeper (envOfC "is_reading" (defScope s_is_reading) s.heap.objs.size f cdv))) :
    PSsD (dx0 (cxOf CX0 P w K mg base ["thing"] "is_reading" (defScope s_is_reading) f cdv A outer s H E).nox) (defBody s_is_reading) b_is_reading :=
  have hu := hr.units
  (pssd_one (psd_ret (pd_and (pd_kn c_is_small hr rfl (pad_cons (pd_var 0 (pv 0)) pad_nil)) (pd_one (pd_chain opx_le mono_oF opx_le mono_oF pd_int (pd_callB callx_len rfl T.n_len (show bootBuiltins "len" = some (.builtin "len") by decide +kernel) (pad_cons (pd_var 0 (pv 0)) pad_nil)) (pd_gintE rfl T.c_MOST))))))
abbrev s_is_writing : Stmt := top 21
abbrev N_is_writing : List Str := ["thing", "sign"]
theorem sc_is_writing : FnScope ["thing", "sign"] ["thing"] (defScope s_is_writing) := ⟨rfl, rfl, rfl, by decide +kernel, rfl, by decide +kernel, by decide +kernel⟩
theorem d_is_writing {P : Program} {w : World} {K : PySem.W.Frag} {mg : Str → Option Value} {base : Heap} (T : Tx K mg) (f : Addr) (cdv : Value) (A : Around) (outer : List PySem.Env) (s : Shared) (H : Hp) (E : XK) (hr : RoomG 0 (A.deeper (envOfC "is_writing" (defScope s_is_writing) s.heap.objs.size f cdv))) :
    PSsD (dx0 (cxOf CX0 P w K mg base ["thing", "sign"] "is_writing" (defScope s_is_writing) f cdv A outer s H E).nox) (defBody s_is_writing) b_is_writing :=
  have hu := hr.units
  (pssd_one (psd_ret (pd_and (pd_isi rfl T.n_isinstance rfl T.n_str (show bootBuiltins "str" = some (.type "str") by decide +kernel) (by decide) (pd_var 0 (pv 0))) (pd_and (pd_chain opx_le mono_oF opx_le mono_oF pd_int (pd_callB callx_len rfl T.n_len (show bootBuiltins "len" = some (.builtin "len") by decide +kernel) (pad_cons (pd_var 0 (pv 0)) pad_nil)) (pd_gintE rfl T.c_LONGEST)) (pd_one (pd_callB (callx_all rfl) rfl T.n_all (show bootBuiltins "all" = some (.builtin "all") by decide +kernel) (pad_cons (pd_lc (own := [("sign", 1)]) (.one 1) rfl sc_is_writing.nd (pid_any (pd_var 0 (pv 0))) (blkOk_by (N := N_is_writing) (sc := defScope s_is_writing) (own := [("sign", 1)]) (by decide +kernel)) ⟨fun _ _ _ _ _ => (pg_name (i := 1) sc_is_writing.nd rfl (by first | exact Or.inl rfl | exact Or.inr rfl)), fun _ _ _ _ _ => ptsd_nil, fun _ _ _ _ _ => (pd_cmp (opx_inA hu) (mono_oOr mono_oInS mono_oIn) (pd_var 1 (pv 1)) (pd_gstrE rfl T.c_LARGE) (by with_unfolding_all rfl))⟩ (by decide)) pad_nil)))))))
abbrev s_is_segment : Stmt := top 25
theorem sc_is_segment : FnScope ["thing"] ["thing"] (defScope s_is_segment) := ⟨rfl, rfl, rfl, by decide +kernel, rfl, by decide +kernel, by decide +kernel⟩
theorem d_is_segment {P : Program} {w : World} {K : PySem.W.Frag} {mg : Str → Option Value} {base : Heap} (T : Tx K mg) (c_is_reading : Kn P w K mg base "is_reading" 2 ["thing"] sp_is_reading) (c_is_writing : Kn P w K mg base "is_writing" 1 ["thing"] sp_is_writing) (f : Addr) (cdv : Value) (A : Around) (outer : List PySem.Env) (s : Shared) (H : Hp) (E : XK) (hr : RoomG 2 (A.deeper (envOfC "is_segment" (defScope s_is_segment) s.heap.objs.size f cdv))) :
    PSsD (dx0 (cxOf CX0 P w K mg base ["thing"] "is_segment" (defScope s_is_segment) f cdv A outer s H E).nox) (defBody s_is_segment) b_is_segment :=
  have hu := hr.units
  (pssd_cons (psd_if (ptd_w (pwd_or (ptd_not (ptd_val (pd_isi rfl T.n_isinstance rfl T.n_tuple (show bootBuiltins "tuple" = some (.type "tuple") by decide +kernel) (by decide) (pd_var 0 (pv 0))))) (pwd_or (ptd_cmp (opx_ne hu) mono_oF (pd_callB callx_len rfl T.n_len (show bootBuiltins "len" = some (.builtin "len") by decide +kernel) (pad_cons (pd_var 0 (pv 0)) pad_nil)) pd_int (nomark _)) (pwd_or1 (ptd_not (ptd_val (pd_kn c_is_reading hr rfl (pad_cons (pd_ix (pd_var 0 (pv 0)) pd_int (fun _ _ => by with_unfolding_all rfl)) pad_nil)))))))) (pssd_one (psd_ret pd_bl)) pssd_nil)
      (pssd_one (psd_ret (pd_or (pd_kn c_is_writing (hr.mono (by decide)) rfl (pad_cons (pd_ix (pd_var 0 (pv 0)) pd_int (fun _ _ => by with_unfolding_all rfl)) pad_nil)) (pd_one (pd_and (pd_isi rfl T.n_isinstance rfl T.n_str (show bootBuiltins "str" = some (.type "str") by decide +kernel) (by decide) (pd_ix (pd_var 0 (pv 0)) pd_int (fun _ _ => by with_unfolding_all rfl))) (pd_one (pd_cmp (opx_eq hu) mono_oF (pd_ix (pd_var 0 (pv 0)) pd_int (fun _ _ => by with_unfolding_all rfl)) (pd_ix (pd_var 0 (pv 0)) pd_int (fun _ _ => by with_unfolding_all rfl)) (nomark _)))))))))
abbrev s_is_count : Stmt := top 18
theorem sc_is_count : FnScope ["thing"] ["thing"] (defScope s_is_count) := ⟨rfl, rfl, rfl, by decide +kernel, rfl, by decide +kernel, by decide +kernel⟩
theorem d_is_count {P : Program} {w : World} {K : PySem.W.Frag} {mg : Str → Option Value} {base : Heap} (T : Tx K mg) (f : Addr) (cdv : Value) (A : Around) (outer : List PySem.Env) (s : Shared) (H : Hp) (E : XK) (hr : RoomG 0 (A.deeper (envOfC "is_count" (defScope s_is_count) s.heap.objs.size f cdv))) :
    PSsD (dx0 (cxOf CX0 P w K mg base ["thing"] "is_count" (defScope s_is_count) f cdv A outer s H E).nox) (defBody s_is_count) b_is_count :=
  have hu := hr.units
  (pssd_one (psd_ret (pd_and (pd_isi rfl T.n_isinstance rfl T.n_int (show bootBuiltins "int" = some (.type "int") by decide +kernel) (by decide) (pd_var 0 (pv 0))) (pd_and (pd_not (pd_isi rfl T.n_isinstance rfl T.n_bool (show bootBuiltins "bool" = some (.type "bool") by decide +kernel) (by decide) (pd_var 0 (pv 0)))) (pd_one (pd_cmp opx_ge mono_oF (pd_var 0 (pv 0)) pd_int (nomark _)))))))
abbrev s_is_state : Stmt := top 26
abbrev N_is_state : List Str := ["thing", "segments", "at", "tail", "segment", "reading", "writing"]
theorem sc_is_state : FnScope ["thing", "segments", "at", "tail", "segment", "reading", "writing"] ["thing"] (defScope s_is_state) := ⟨rfl, rfl, rfl, by decide +kernel, rfl, by decide +kernel, by decide +kernel⟩
theorem d_is_state {P : Program} {w : World} {K : PySem.W.Frag} {mg : Str → Option Value} {base : Heap} (T : Tx K mg) (c_is_segment : Kn P w K mg base "is_segment" 3 ["thing"] sp_is_segment) (c_is_count : Kn P w K mg base "is_count" 1 ["thing"] sp_is_count) (c_is_small : Kn P w K mg base "is_small" 1 ["thing"] sp_is_small) (f : Addr) (cdv : Value) (A : Around) (outer : List PySem.Env) (s : Shared) (H : Hp) (E : XK) (hr : RoomG 3 (A.deeper (envOfC "is_state" (defScope s_is_state) s.heap.objs.size f cdv))) :
    PSsD (dx0 (cxOf CX0 P w K mg base ["thing", "segments", "at", "tail", "segment", "reading", "writing"] "is_state" (defScope s_is_state) f cdv A outer s H E).nox) (defBody s_is_state) b_is_state :=
  have hu := hr.units
  (pssd_cons (psd_if (ptd_w (pwd_or (ptd_not (ptd_val (pd_isi rfl T.n_isinstance rfl T.n_tuple (show bootBuiltins "tuple" = some (.type "tuple") by decide +kernel) (by decide) (pd_var 0 (pv 0))))) (pwd_or (ptd_cmp (opx_ne hu) mono_oF (pd_callB callx_len rfl T.n_len (show bootBuiltins "len" = some (.builtin "len") by decide +kernel) (pad_cons (pd_var 0 (pv 0)) pad_nil)) pd_int (nomark _)) (pwd_or1 (ptd_not (ptd_val (pd_isi rfl T.n_isinstance rfl T.n_tuple (show bootBuiltins "tuple" = some (.type "tuple") by decide +kernel) (by decide) (pd_ix (pd_var 0 (pv 0)) pd_int (fun _ _ => by with_unfolding_all rfl))))))))) (pssd_one (psd_ret pd_bl)) pssd_nil)
      (pssd_cons (psd_asg (pd_var 0 (pv 0)) (pgd_tup rfl (pgs_n1 (pg_name (i := 1) sc_is_state.nd rfl (by first | exact Or.inl rfl | exact Or.inr rfl)) (pgs_n1 (pg_name (i := 2) sc_is_state.nd rfl (by first | exact Or.inl rfl | exact Or.inr rfl)) (pgs_n1 (pg_name (i := 3) sc_is_state.nd rfl (by first | exact Or.inl rfl | exact Or.inr rfl)) pgs_n0)))))
      (pssd_cons (psd_if (ptd_w (pwd_or (ptd_not (ptd_val (pd_callB (callx_all rfl) rfl T.n_all (show bootBuiltins "all" = some (.builtin "all") by decide +kernel) (pad_cons (pd_lc (own := [("segment", 4)]) (.one 4) rfl sc_is_state.nd (pid_any (pd_var 1 (pv 1))) (blkOk_by (N := N_is_state) (sc := defScope s_is_state) (own := [("segment", 4)]) (by decide +kernel)) ⟨fun _ _ _ _ _ => (pg_name (i := 4) sc_is_state.nd rfl (by first | exact Or.inl rfl | exact Or.inr rfl)), fun _ _ _ _ _ => ptsd_nil, fun _ _ _ _ _ => (pd_kn c_is_segment hr rfl (pad_cons (pd_var 4 (pv 4)) pad_nil))⟩ (by decide)) pad_nil)))) (pwd_or (ptd_not (ptd_val (pd_kn c_is_count (hr.mono (by decide)) rfl (pad_cons (pd_var 2 (pv 2)) pad_nil)))) (pwd_or1 (ptd_not (ptd_val (pd_kn c_is_small (hr.mono (by decide)) rfl (pad_cons (pd_var 3 (pv 3)) pad_nil)))))))) (pssd_one (psd_ret pd_bl)) pssd_nil)
      (pssd_cons (psd_if (ptd_cmp opx_gtB mono_oF (pd_var 2 (pv 2)) (pd_callB (callx_max2 rfl) rfl T.n_max (show bootBuiltins "max" = some (.builtin "max") by decide +kernel) (pad_cons pd_int (pad_cons (pd_bin opx_sub mono_oF (pd_callB callx_len rfl T.n_len (show bootBuiltins "len" = some (.builtin "len") by decide +kernel) (pad_cons (pd_var 1 (pv 1)) pad_nil)) pd_int) pad_nil))) (nomark _)) (pssd_one (psd_ret pd_bl)) pssd_nil)
      (pssd_one (psd_ret (pd_cmp opx_le mono_oF (pd_bin opx_add mono_oF (pd_callB callx_len rfl T.n_len (show bootBuiltins "len" = some (.builtin "len") by decide +kernel) (pad_cons (pd_var 3 (pv 3)) pad_nil)) (pd_callB (callx_sum rfl) rfl T.n_sum (show bootBuiltins "sum" = some (.builtin "sum") by decide +kernel) (pad_cons (pd_lc (own := [("reading", 5), ("writing", 6)]) (.many [5, 6]) rfl sc_is_state.nd (pid_any (pd_var 1 (pv 1))) (blkOk_by (N := N_is_state) (sc := defScope s_is_state) (own := [("reading", 5), ("writing", 6)]) (by decide +kernel)) ⟨fun _ _ _ _ _ => (pg_tup rfl (pgs_n1 (pg_name (i := 5) sc_is_state.nd rfl (by first | exact Or.inl rfl | exact Or.inr rfl)) (pgs_n1 (pg_name (i := 6) sc_is_state.nd rfl (by first | exact Or.inl rfl | exact Or.inr rfl)) pgs_n0))), fun _ _ _ _ _ => ptsd_nil, fun _ _ _ _ _ => (pd_callB callx_len rfl T.n_len (show bootBuiltins "len" = some (.builtin "len") by decide +kernel) (pad_cons (pd_var 5 (pv 5)) pad_nil))⟩ (by decide)) pad_nil))) (pd_gintE rfl T.c_MOST) (nomark _))))))))
abbrev s_need_state : Stmt := top 28
theorem sc_need_state : FnScope ["thing"] ["thing"] (defScope s_need_state) := ⟨rfl, rfl, rfl, by decide +kernel, rfl, by decide +kernel, by decide +kernel⟩
theorem d_need_state {P : Program} {w : World} {K : PySem.W.Frag} {mg : Str → Option Value} {base : Heap} (T : Tx K mg) (c_is_state : Kn P w K mg base "is_state" 4 ["thing"] sp_is_state) (f : Addr) (cdv : Value) (A : Around) (outer : List PySem.Env) (s : Shared) (H : Hp) (E : XK) (B0 A0 : List Addr) (s0 : Sto) (hr : RoomG 4 (A.deeper (envOfC "need_state" (defScope s_need_state) s.heap.objs.size f cdv))) :
    PSsD (dxR P w K mg base ["thing"] "need_state" (defScope s_need_state) f cdv A outer s H E rfl B0 A0 s0) (defBody s_need_state) (b_need_state fun y fs _ s' => PostX K mg B0 H A0 s0 E y fs s') :=
  have hu := hr.units
  (pssd_one (psd_if (ptd_not (ptd_val (pd_kn c_is_state hr rfl (pad_cons (pd_var 0 (pv 0)) pad_nil)))) (pssd_one (psd_raise rfl T.o_NoState.choose_spec rfl)) pssd_nil))
abbrev s_reading_of : Stmt := top 30
abbrev N_reading_of : List Str := ["state", "reading", "writing"]
theorem sc_reading_of : FnScope ["state", "reading", "writing"] ["state"] (defScope s_reading_of) := ⟨rfl, rfl, rfl, by decide +kernel, rfl, by decide +kernel, by decide +kernel⟩
theorem d_reading_of {P : Program} {w : World} {K : PySem.W.Frag} {mg : Str → Option Value} {base : Heap} (T : Tx K mg) (c_need_state : KnX P w K mg base "need_state" 5 ["thing"] sp_need_state) (f : Addr) (cdv : Value) (A : Around) (outer : List PySem.Env) (s : Shared) (H : Hp) (E : XK) (B0 A0 : List Addr) (s0 : Sto) (hr : RoomG 5 (A.deeper (envOfC "reading_of" (defScope s_reading_of) s.heap.objs.size f cdv))) :
    PSsD (dxR P w K mg base ["state", "reading", "writing"] "reading_of" (defScope s_reading_of) f cdv A outer s H E rfl B0 A0 s0) (defBody s_reading_of) (b_reading_of fun y fs _ s' => PostX K mg B0 H A0 s0 E y fs s') :=
  have hu := hr.units
  (pssd_cons (psd_expr (pd_knX c_need_state hr rfl (pad_cons (pd_var 0 (pv 0)) pad_nil)))
      (pssd_one (psd_ret (pd_bin opx_add mono_oF (pd_join pd_str (pd_lc (own := [("reading", 1), ("writing", 2)]) (.many [1, 2]) rfl sc_reading_of.nd (pid_any (pd_ix (pd_var 0 (pv 0)) pd_int (fun _ _ => by with_unfolding_all rfl))) (blkOk_by (N := N_reading_of) (sc := defScope s_reading_of) (own := [("reading", 1), ("writing", 2)]) (by decide +kernel)) ⟨fun _ _ _ _ _ => (pg_tup rfl (pgs_n1 (pg_name (i := 1) sc_reading_of.nd rfl (by first | exact Or.inl rfl | exact Or.inr rfl)) (pgs_n1 (pg_name (i := 2) sc_reading_of.nd rfl (by first | exact Or.inl rfl | exact Or.inr rfl)) pgs_n0))), fun _ _ _ _ _ => ptsd_nil, fun _ _ _ _ _ => (pd_var 1 (pv 1))⟩ (by decide))) (pd_ix (pd_var 0 (pv 0)) pd_int (fun _ _ => by with_unfolding_all rfl))))))
abbrev s_letters_of : Stmt := top 35
abbrev N_letters_of : List Str := ["keys", "key"]
theorem sc_letters_of : FnScope ["keys", "key"] ["keys"] (defScope s_letters_of) := ⟨rfl, rfl, rfl, by decide +kernel, rfl, by decide +kernel, by decide +kernel⟩
theorem d_letters_of {P : Program} {w : World} {K : PySem.W.Frag} {mg : Str → Option Value} {base : Heap} (T : Tx K mg) (f : Addr) (cdv : Value) (A : Around) (outer : List PySem.Env) (s : Shared) (H : Hp) (E : XK) (hr : RoomG 0 (A.deeper (envOfC "letters_of" (defScope s_letters_of) s.heap.objs.size f cdv))) :
    PSsD (dx0 (cxOf CX0 P w K mg base ["keys", "key"] "letters_of" (defScope s_letters_of) f cdv A outer s H E).nox) (defBody s_letters_of) b_letters_of :=
  have hu := hr.units
  (pssd_one (psd_ret (pd_join pd_str (pd_lc (own := [("key", 1)]) (.one 1) rfl sc_letters_of.nd (pid_any (pd_var 0 (pv 0))) (blkOk_by (N := N_letters_of) (sc := defScope s_letters_of) (own := [("key", 1)]) (by decide +kernel)) ⟨fun _ _ _ _ _ => (pg_name (i := 1) sc_letters_of.nd rfl (by first | exact Or.inl rfl | exact Or.inr rfl)), fun _ _ _ _ _ => (ptsd_one (ptd_cmp (opx_eq hu) mono_oF (pd_callB callx_len rfl T.n_len (show bootBuiltins "len" = some (.builtin "len") by decide +kernel) (pad_cons (pd_var 1 (pv 1)) pad_nil)) pd_int (nomark _))), fun _ _ _ _ _ => (pd_var 1 (pv 1))⟩ (by decide)))))
abbrev s_Page_since : Stmt := topM 43 5
theorem sc_Page_since : FnScope ["self"] ["self"] (defScope s_Page_since) := ⟨rfl, rfl, rfl, by decide +kernel, rfl, by decide +kernel, by decide +kernel⟩
theorem d_Page_since {P : Program} {w : World} {K : PySem.W.Frag} {mg : Str → Option Value} {base : Heap} (T : Tx K mg) (c_letters_of : Kn P w K mg base "letters_of" 1 ["keys"] sp_letters_of) (f : Addr) (cdv : Value) (A : Around) (outer : List PySem.Env) (s : Shared) (H : Hp) (E : XK) (hr : RoomG 1 (A.deeper (envOfC "Page.since" (defScope s_Page_since) s.heap.objs.size f cdv))) :
    PSsD (dx0 (cxOf CX0 P w K mg base ["self"] "Page.since" (defScope s_Page_since) f cdv A outer s H E).nox) (defBody s_Page_since) b_Page_since :=
  have hu := hr.units
  (pssd_one (psd_ret (pd_kn c_letters_of hr rfl (pad_cons (pd_slice (pd_fld T.f_Page_pressed (pd_var 0 (pv 0))) (pod_some (pd_fld T.f_Page_answered (pd_var 0 (pv 0)))) pod_none) pad_nil))))
abbrev s_Page_key : Stmt := topM 43 6
theorem sc_Page_key : FnScope ["self", "key"] ["self", "key"] (defScope s_Page_key) := ⟨rfl, rfl, rfl, by decide +kernel, rfl, by decide +kernel, by decide +kernel⟩
theorem d_Page_key {P : Program} {w : World} {K : PySem.W.Frag} {mg : Str → Option Value} {base : Heap} (T : Tx K mg) (c_need_key : KnX P w K mg base "need_key" 2 ["thing"] sp_need_key) (c_Page_begin : KnM P w K mg base CX0 "Page" "begin" 1 ["self", "state"] sp_Page_begin) (c_reading_of : KnX P w K mg base "reading_of" 6 ["state"] sp_reading_of) (c_Page_since : KnM P w K mg base CX0 "Page" "since" 2 ["self"] sp_Page_since) (f : Addr) (cdv : Value) (A : Around) (outer : List PySem.Env) (s : Shared) (H : Hp) (E : XK) (B0 A0 : List Addr) (s0 : Sto) (hr : RoomG 6 (A.deeper (envOfC "Page.key" (defScope s_Page_key) s.heap.objs.size f cdv))) :
    PSsD (dxR P w K mg base ["self", "key"] "Page.key" (defScope s_Page_key) f cdv A outer s H E rfl B0 A0 s0) (defBody s_Page_key) (b_Page_key fun y fs _ s' => PostX K mg B0 H A0 s0 E y fs s') :=
  have hu := hr.units
  (pssd_cons (psd_expr (pd_knX c_need_key (hr.mono (by decide)) rfl (pad_cons (pd_var 1 (pv 1)) pad_nil)))
      (pssd_cons (psd_if (ptd_not (ptd_val (pd_fld T.f_Page_begun (pd_var 0 (pv 0))))) (pssd_cons (psd_if (ptd_cmp opx_gtB mono_oF (pd_callB callx_len rfl T.n_len (show bootBuiltins "len" = some (.builtin "len") by decide +kernel) (pad_cons (pd_var 1 (pv 1)) pad_nil)) pd_int (nomark _)) (pssd_one (psd_ret (pd_lst pad_nil))) pssd_nil)
      (pssd_one (psd_expr (pd_methN c_Page_begin (hr.mono (by decide)) (pd_var 0 (pv 0)) (pad_cons (pd_noth rfl T.c_NOTHING) pad_nil) _)))) (pssd_one (psd_if (ptd_w (pwd_and (ptd_cmp (opx_eq hu) mono_oF (pd_callB callx_len rfl T.n_len (show bootBuiltins "len" = some (.builtin "len") by decide +kernel) (pad_cons (pd_var 1 (pv 1)) pad_nil)) pd_int (nomark _)) (pwd_and1 (ptd_cmp opx_ge mono_oF (pd_callB callx_len rfl T.n_len (show bootBuiltins "len" = some (.builtin "len") by decide +kernel) (pad_cons (pd_bin opx_add mono_oF (pd_knX c_reading_of hr rfl (pad_cons (pd_fld T.f_Page_latest (pd_var 0 (pv 0))) pad_nil)) (pd_methN0 c_Page_since (hr.mono (by decide)) (pd_var 0 (pv 0)) _)) pad_nil)) (pd_gintE rfl T.c_MOST) (nomark _))))) (pssd_one (psd_raise rfl T.o_Full.choose_spec rfl)) pssd_nil)))
      (pssd_cons (psd_expr (pd_mt PySem.F.slot_list_append PySem.F.type_list_append mtx_append (pd_fld T.f_Page_pressed (pd_var 0 (pv 0))) (pad_cons (pd_var 1 (pv 1)) pad_nil)))
      (pssd_one (psd_ret (pd_lst (pad_cons (pd_tup (pad_cons pd_str (pad_cons (pd_fld T.f_Page_number (pd_var 0 (pv 0))) (pad_cons (pd_callB callx_len rfl T.n_len (show bootBuiltins "len" = some (.builtin "len") by decide +kernel) (pad_cons (pd_fld T.f_Page_pressed (pd_var 0 (pv 0))) pad_nil)) (pad_cons (pd_var 1 (pv 1)) pad_nil))))) pad_nil)))))))
abbrev s__law_reading : Stmt := top 51
abbrev N__law_reading : List Str := ["state", "reading", "writing"]
theorem sc__law_reading : FnScope ["state", "reading", "writing"] ["state"] (defScope s__law_reading) := ⟨rfl, rfl, rfl, by decide +kernel, rfl, by decide +kernel, by decide +kernel⟩
theorem d__law_reading {P : Program} {w : World} {K : PySem.W.Frag} {mg : Str → Option Value} {base : Heap} (T : Tx K mg) (f : Addr) (cdv : Value) (A : Around) (outer : List PySem.Env) (s : Shared) (H : Hp) (E : XK) (hr : RoomG 0 (A.deeper (envOfC "_law_reading" (defScope s__law_reading) s.heap.objs.size f cdv))) :
    PSsD (dx0 (cxOf CX0 P w K mg base ["state", "reading", "writing"] "_law_reading" (defScope s__law_reading) f cdv A outer s H E).nox) (defBody s__law_reading) b__law_reading :=
  have hu := hr.units
  (pssd_one (psd_ret (pd_bin opx_add mono_oF (pd_join pd_str (pd_lc (own := [("reading", 1), ("writing", 2)]) (.many [1, 2]) rfl sc__law_reading.nd (pid_any (pd_ix (pd_var 0 (pv 0)) pd_int (fun _ _ => by with_unfolding_all rfl))) (blkOk_by (N := N__law_reading) (sc := defScope s__law_reading) (own := [("reading", 1), ("writing", 2)]) (by decide +kernel)) ⟨fun _ _ _ _ _ => (pg_tup rfl (pgs_n1 (pg_name (i := 1) sc__law_reading.nd rfl (by first | exact Or.inl rfl | exact Or.inr rfl)) (pgs_n1 (pg_name (i := 2) sc__law_reading.nd rfl (by first | exact Or.inl rfl | exact Or.inr rfl)) pgs_n0))), fun _ _ _ _ _ => ptsd_nil, fun _ _ _ _ _ => (pd_var 1 (pv 1))⟩ (by decide))) (pd_ix (pd_var 0 (pv 0)) pd_int (fun _ _ => by with_unfolding_all rfl)))))
abbrev s__law_since : Stmt := top 50
abbrev N__law_since : List Str := ["pressed", "answered", "key"]
theorem sc__law_since : FnScope ["pressed", "answered", "key"] ["pressed", "answered"] (defScope s__law_since) := ⟨rfl, rfl, rfl, by decide +kernel, rfl, by decide +kernel, by decide +kernel⟩
theorem d__law_since {P : Program} {w : World} {K : PySem.W.Frag} {mg : Str → Option Value} {base : Heap} (T : Tx K mg) (f : Addr) (cdv : Value) (A : Around) (outer : List PySem.Env) (s : Shared) (H : Hp) (E : XK) (hr : RoomG 0 (A.deeper (envOfC "_law_since" (defScope s__law_since) s.heap.objs.size f cdv))) :
    PSsD (dx0 (cxOf CX0 P w K mg base ["pressed", "answered", "key"] "_law_since" (defScope s__law_since) f cdv A outer s H E).nox) (defBody s__law_since) b__law_since :=
  have hu := hr.units
  (pssd_one (psd_ret (pd_join pd_str (pd_lc (own := [("key", 2)]) (.one 2) rfl sc__law_since.nd (pid_any (pd_slice (pd_var 0 (pv 0)) (pod_some (pd_var 1 (pv 1))) pod_none)) (blkOk_by (N := N__law_since) (sc := defScope s__law_since) (own := [("key", 2)]) (by decide +kernel)) ⟨fun _ _ _ _ _ => (pg_name (i := 2) sc__law_since.nd rfl (by first | exact Or.inl rfl | exact Or.inr rfl)), fun _ _ _ _ _ => (ptsd_one (ptd_cmp (opx_eq hu) mono_oF (pd_callB callx_len rfl T.n_len (show bootBuiltins "len" = some (.builtin "len") by decide +kernel) (pad_cons (pd_var 2 (pv 2)) pad_nil)) pd_int (nomark _))), fun _ _ _ _ _ => (pd_var 2 (pv 2))⟩ (by decide)))))
abbrev s__law_key_right : Stmt := top 54
theorem sc__law_key_right : FnScope ["page", "pressed", "answered", "state", "key", "told", "full", "size", "due"] ["page", "pressed", "answered", "state", "key"] (defScope s__law_key_right) := ⟨rfl, rfl, rfl, by decide +kernel, rfl, by decide +kernel, by decide +kernel⟩
theorem d__law_key_right {P : Program} {w : World} {K : PySem.W.Frag} {mg : Str → Option Value} {base : Heap} (T : Tx K mg) (c_Page_key : KnM P w K mg base (L2.CX P w) "Page" "key" 7 ["self", "key"] sp_Page_key) (c__law_reading : Kn P w K mg base "_law_reading" 1 ["state"] sp__law_reading) (c__law_since : Kn P w K mg base "_law_since" 1 ["pressed", "answered"] sp__law_since) (f : Addr) (cdv : Value) (A : Around) (outer : List PySem.Env) (s : Shared) (H : Hp) (E : XK) (hr : RoomG 7 (A.deeper (envOfC "_law_key_right" (defScope s__law_key_right) s.heap.objs.size f cdv))) :
    PSsD (dx0 (cxOf CX0 P w K mg base ["page", "pressed", "answered", "state", "key", "told", "full", "size", "due"] "_law_key_right" (defScope s__law_key_right) f cdv A outer s H E).nox) (defBody s__law_key_right) b__law_key_right :=
  have hu := hr.units
  (pssd_cons (psd_set (i := 5) sc__law_key_right.nd rfl (by first | exact Or.inl rfl | exact Or.inr rfl) pd_non)
      (pssd_cons (psd_set (i := 6) sc__law_key_right.nd rfl (by first | exact Or.inl rfl | exact Or.inr rfl) pd_bl)
      (pssd_cons (psd_tryO T.h_Full.choose_spec rfl rfl rfl (by decide) (wms_asg (wm_meth mono_Page_key mono_var (mono_cons mono_var mono_nil))) (fun _ _ _ _ _ _ _ _ => (pssd_one (psd_set (i := 5) sc__law_key_right.nd rfl (by first | exact Or.inl rfl | exact Or.inr rfl) (pd_meth c_Page_key hr (pd_var 0 (pv 0)) (pad_cons (pd_var 4 (pv 4)) pad_nil) _)))) (fun _ _ => (pssd_one (psd_set (i := 6) sc__law_key_right.nd rfl (by first | exact Or.inl rfl | exact Or.inr rfl) pd_bl))))
      (pssd_cons (psd_set (i := 7) sc__law_key_right.nd rfl (by first | exact Or.inl rfl | exact Or.inr rfl) (pd_callB callx_len rfl T.n_len (show bootBuiltins "len" = some (.builtin "len") by decide +kernel) (pad_cons (pd_bin opx_add mono_oF (pd_kn c__law_reading (hr.mono (by decide)) rfl (pad_cons (pd_var 3 (pv 3)) pad_nil)) (pd_kn c__law_since (hr.mono (by decide)) rfl (pad_cons (pd_var 1 (pv 1)) (pad_cons (pd_var 2 (pv 2)) pad_nil)))) pad_nil)))
      (pssd_cons (psd_set (i := 8) sc__law_key_right.nd rfl (by first | exact Or.inl rfl | exact Or.inr rfl) (pd_and (pd_cmp (opx_eq hu) mono_oF (pd_callB callx_len rfl T.n_len (show bootBuiltins "len" = some (.builtin "len") by decide +kernel) (pad_cons (pd_var 4 (pv 4)) pad_nil)) pd_int (nomark _)) (pd_and (pd_cmp (opx_ne hu) mono_oF (pd_var 1 (pv 1)) (pd_lst pad_nil) (nomark _)) (pd_one (pd_cmp opx_gtB mono_oF (pd_var 7 (pv 7)) pd_int (nomark _))))))
      (pssd_cons (psd_if (ptd_w (pwd_or (ptd_val (pd_var 6 (pv 6))) (pwd_or1 (ptd_val (pd_var 8 (pv 8)))))) (pssd_one (psd_ret (pd_and (pd_var 6 (pv 6)) (pd_one (pd_var 8 (pv 8)))))) pssd_nil)
      (pssd_cons (psd_if (ptd_w (pwd_and (ptd_cmp (opx_eq hu) mono_oF (pd_var 1 (pv 1)) (pd_lst pad_nil) (nomark _)) (pwd_and1 (ptd_cmp opx_gtB mono_oF (pd_callB callx_len rfl T.n_len (show bootBuiltins "len" = some (.builtin "len") by decide +kernel) (pad_cons (pd_var 4 (pv 4)) pad_nil)) pd_int (nomark _))))) (pssd_one (psd_ret (pd_cmp (opx_eq hu) mono_oF (pd_var 5 (pv 5)) (pd_lst pad_nil) (nomark _)))) pssd_nil)
      (pssd_cons (psd_expr (pd_mt PySem.F.slot_list_append PySem.F.type_list_append mtx_append (pd_var 1 (pv 1)) (pad_cons (pd_var 4 (pv 4)) pad_nil)))
      (pssd_one (psd_ret (pd_cmp (opx_eq hu) mono_oF (pd_var 5 (pv 5)) (pd_lst (pad_cons (pd_tup (pad_cons pd_str (pad_cons pd_int (pad_cons (pd_callB callx_len rfl T.n_len (show bootBuiltins "len" = some (.builtin "len") by decide +kernel) (pad_cons (pd_var 1 (pv 1)) pad_nil)) (pad_cons (pd_var 4 (pv 4)) pad_nil))))) pad_nil)) (nomark _))))))))))))
abbrev s__law_state : Stmt := top 48
theorem sc__law_state : FnScope ["bag", "book", "segments", "left", "k", "tail", "pair", "turn"] ["bag", "book"] (defScope s__law_state) := ⟨rfl, rfl, rfl, by decide +kernel, rfl, by decide +kernel, by decide +kernel⟩
theorem d__law_state {P : Program} {w : World} {K : PySem.W.Frag} {mg : Str → Option Value} {base : Heap} (T : Tx K mg) (c__law_take : Kn P w K mg base "_law_take" 1 ["bag", "many"] sp__law_take) (c__law_word : Kn P w K mg base "_law_word" 2 ["bag", "most"] sp__law_word) (f : Addr) (cdv : Value) (A : Around) (outer : List PySem.Env) (s : Shared) (H : Hp) (E : XK) (hr : RoomG 2 (A.deeper (envOfC "_law_state" (defScope s__law_state) s.heap.objs.size f cdv))) :
    PSsD (dx0 (cxOf CX0 P w K mg base ["bag", "book", "segments", "left", "k", "tail", "pair", "turn"] "_law_state" (defScope s__law_state) f cdv A outer s H E).nox) (defBody s__law_state) b__law_state :=
  have hu := hr.units
  (pssd_cons (psd_set (i := 2) sc__law_state.nd rfl (by first | exact Or.inl rfl | exact Or.inr rfl) (pd_new pad_nil))
      (pssd_cons (psd_set (i := 3) sc__law_state.nd rfl (by first | exact Or.inl rfl | exact Or.inr rfl) pd_int)
      (pssd_cons (psd_for PassesOwn.never rfl (pid_range1 rfl T.n_range (pad_cons (pd_kn c__law_take (hr.mono (by decide)) rfl (pad_cons (pd_var 0 (pv 0)) (pad_cons pd_int pad_nil))) pad_nil)) (pgd_name (i := 4) (pg_name (i := 4) sc__law_state.nd rfl (by first | exact Or.inl rfl | exact Or.inr rfl))) (pssd_cons (psd_set (i := 6) sc__law_state.nd rfl (by first | exact Or.inl rfl | exact Or.inr rfl) (pd_tup (pad_cons (pd_kn c__law_word hr rfl (pad_cons (pd_var 0 (pv 0)) (pad_cons (pd_ix (pd_lst (pad_cons pd_int (pad_cons pd_int pad_nil))) (pd_kn c__law_take (hr.mono (by decide)) rfl (pad_cons (pd_var 0 (pv 0)) (pad_cons pd_int pad_nil))) (fun _ _ => by with_unfolding_all rfl)) pad_nil))) (pad_cons pd_str pad_nil))))
      (pssd_cons (psd_set (i := 7) sc__law_state.nd rfl (by first | exact Or.inl rfl | exact Or.inr rfl) (pd_kn c__law_take (hr.mono (by decide)) rfl (pad_cons (pd_var 0 (pv 0)) (pad_cons pd_int pad_nil))))
      (pssd_cons (psd_if (ptd_w (pwd_and (ptd_cmp opx_lt mono_oF (pd_var 7 (pv 7)) pd_int (nomark _)) (pwd_and1 (ptd_cmp (opx_ne hu) mono_oF (pd_ix (pd_var 1 (pv 1)) pd_int (fun _ _ => by with_unfolding_all rfl)) (pd_lst pad_nil) (nomark _))))) (pssd_one (psd_set (i := 6) sc__law_state.nd rfl (by first | exact Or.inl rfl | exact Or.inr rfl) (pd_slice (pd_ix (pd_ix (pd_var 1 (pv 1)) pd_int (fun _ _ => by with_unfolding_all rfl)) (pd_kn c__law_take (hr.mono (by decide)) rfl (pad_cons (pd_var 0 (pv 0)) (pad_cons (pd_callB callx_len rfl T.n_len (show bootBuiltins "len" = some (.builtin "len") by decide +kernel) (pad_cons (pd_ix (pd_var 1 (pv 1)) pd_int (fun _ _ => by with_unfolding_all rfl)) pad_nil)) pad_nil))) (fun _ _ => by with_unfolding_all rfl)) pod_none (pod_some pd_int)))) (pssd_one (psd_if (ptd_cmp opx_lt mono_oF (pd_var 7 (pv 7)) pd_int (nomark _)) (pssd_one (psd_set (i := 6) sc__law_state.nd rfl (by first | exact Or.inl rfl | exact Or.inr rfl) (pd_tup (pad_cons (pd_ix (pd_var 6 (pv 6)) pd_int (fun _ _ => by with_unfolding_all rfl)) (pad_cons (pd_ix (pd_var 6 (pv 6)) pd_int (fun _ _ => by with_unfolding_all rfl)) pad_nil))))) pssd_nil)))
      (pssd_one (psd_if (ptd_cmp opx_le mono_oF (pd_callB callx_len rfl T.n_len (show bootBuiltins "len" = some (.builtin "len") by decide +kernel) (pad_cons (pd_ix (pd_var 6 (pv 6)) pd_int (fun _ _ => by with_unfolding_all rfl)) pad_nil)) (pd_var 3 (pv 3)) (nomark _)) (pssd_cons (psd_expr (pd_mt PySem.F.slot_list_append PySem.F.type_list_append mtx_append (pd_var 2 (pv 2)) (pad_cons (pd_var 6 (pv 6)) pad_nil)))
      (pssd_one (psd_set (i := 3) sc__law_state.nd rfl (by first | exact Or.inl rfl | exact Or.inr rfl) (pd_bin opx_sub mono_oF (pd_var 3 (pv 3)) (pd_callB callx_len rfl T.n_len (show bootBuiltins "len" = some (.builtin "len") by decide +kernel) (pad_cons (pd_ix (pd_var 6 (pv 6)) pd_int (fun _ _ => by with_unfolding_all rfl)) pad_nil)))))) pssd_nil))))))
      (pssd_cons (psd_set (i := 5) sc__law_state.nd rfl (by first | exact Or.inl rfl | exact Or.inr rfl) (pd_if (ptd_cmp (opx_eq hu) mono_oF (pd_var 3 (pv 3)) pd_int (nomark _)) pd_str (pd_kn c__law_word hr rfl (pad_cons (pd_var 0 (pv 0)) (pad_cons (pd_var 3 (pv 3)) pad_nil)))))
      (pssd_cons (psd_set (i := 5) sc__law_state.nd rfl (by first | exact Or.inl rfl | exact Or.inr rfl) (pd_ix (pd_lst (pad_cons pd_str (pad_cons (pd_var 5 (pv 5)) (pad_cons (pd_slice (pd_var 5 (pv 5)) pod_none (pod_some pd_int)) (pad_cons (pd_slice (pd_bin opx_mul (mono_oOr mono_iic mono_oF) (pd_var 5 (pv 5)) pd_int) pod_none (pod_some (pd_var 3 (pv 3)))) pad_nil))))) (pd_kn c__law_take (hr.mono (by decide)) rfl (pad_cons (pd_var 0 (pv 0)) (pad_cons pd_int pad_nil))) (fun _ _ => by with_unfolding_all rfl)))
      (pssd_one (psd_ret (pd_tup (pad_cons (pd_callTy callx_tuple rfl T.n_tuple (show bootBuiltins "tuple" = some (.type "tuple") by decide +kernel) (pad_cons (pd_var 2 (pv 2)) pad_nil)) (pad_cons (pd_kn c__law_take (hr.mono (by decide)) rfl (pad_cons (pd_var 0 (pv 0)) (pad_cons (pd_callB (callx_max2 rfl) rfl T.n_max (show bootBuiltins "max" = some (.builtin "max") by decide +kernel) (pad_cons pd_int (pad_cons (pd_callB callx_len rfl T.n_len (show bootBuiltins "len" = some (.builtin "len") by decide +kernel) (pad_cons (pd_var 2 (pv 2)) pad_nil)) pad_nil))) pad_nil))) (pad_cons (pd_var 5 (pv 5)) pad_nil)))))))))))
abbrev s__law_shown : Stmt := top 53
theorem sc__law_shown : FnScope ["bag", "pressed", "most", "state", "segments", "at", "tail"] ["bag", "pressed", "most"] (defScope s__law_shown) := ⟨rfl, rfl, rfl, by decide +kernel, rfl, by decide +kernel, by decide +kernel⟩
theorem d__law_shown {P : Program} {w : World} {K : PySem.W.Frag} {mg : Str → Option Value} {base : Heap} (T : Tx K mg) (c__law_state : Kn P w K mg base "_law_state" 3 ["bag", "book"] sp__law_state) (c__law_reading : Kn P w K mg base "_law_reading" 1 ["state"] sp__law_reading) (f : Addr) (cdv : Value) (A : Around) (outer : List PySem.Env) (s : Shared) (H : Hp) (E : XK) (hr : RoomG 3 (A.deeper (envOfC "_law_shown" (defScope s__law_shown) s.heap.objs.size f cdv))) :
    PSsD (dx0 (cxOf CX0 P w K mg base ["bag", "pressed", "most", "state", "segments", "at", "tail"] "_law_shown" (defScope s__law_shown) f cdv A outer s H E).nox) (defBody s__law_shown) b__law_shown :=
  have hu := hr.units
  (pssd_cons (psd_set (i := 3) sc__law_shown.nd rfl (by first | exact Or.inl rfl | exact Or.inr rfl) (pd_kn c__law_state hr rfl (pad_cons (pd_var 0 (pv 0)) (pad_cons (pd_tup (pad_cons (pd_lst pad_nil) (pad_cons (pd_lst pad_nil) pad_nil))) pad_nil))))
      (pssd_cons (psd_while PassesOwn.never (ptd_cmp opx_gtB mono_oF (pd_callB callx_len rfl T.n_len (show bootBuiltins "len" = some (.builtin "len") by decide +kernel) (pad_cons (pd_kn c__law_reading (hr.mono (by decide)) rfl (pad_cons (pd_var 3 (pv 3)) pad_nil)) pad_nil)) (pd_var 2 (pv 2)) (nomark _)) (pssd_cons (psd_asg (pd_var 3 (pv 3)) (pgd_tup rfl (pgs_n1 (pg_name (i := 4) sc__law_shown.nd rfl (by first | exact Or.inl rfl | exact Or.inr rfl)) (pgs_n1 (pg_name (i := 5) sc__law_shown.nd rfl (by first | exact Or.inl rfl | exact Or.inr rfl)) (pgs_n1 (pg_name (i := 6) sc__law_shown.nd rfl (by first | exact Or.inl rfl | exact Or.inr rfl)) pgs_n0)))))
      (pssd_cons (psd_if (ptd_cmp (opx_eq hu) mono_oF (pd_var 6 (pv 6)) pd_str (nomark _)) (pssd_one (psd_par2 (i := 4) (j := 5) rfl sc__law_shown.nd rfl rfl (by decide) rfl rfl (pad_cons (pd_slice (pd_var 4 (pv 4)) pod_none (pod_some (pd_neg pd_int))) (pad_cons pd_int pad_nil)))) pssd_nil)
      (pssd_one (psd_set (i := 3) sc__law_shown.nd rfl (by first | exact Or.inl rfl | exact Or.inr rfl) (pd_tup (pad_cons (pd_var 4 (pv 4)) (pad_cons (pd_var 5 (pv 5)) (pad_cons (pd_if (ptd_cmp opx_gtB mono_oF (pd_callB callx_len rfl T.n_len (show bootBuiltins "len" = some (.builtin "len") by decide +kernel) (pad_cons (pd_var 6 (pv 6)) pad_nil)) (pd_bin opx_fdiv mono_iic (pd_var 2 (pv 2)) pd_int) (nomark _)) (pd_slice (pd_var 6 (pv 6)) pod_none (pod_some (pd_bin opx_fdiv mono_iic (pd_var 2 (pv 2)) pd_int))) pd_str) pad_nil)))))))))
      (pssd_one (psd_ret (pd_var 3 (pv 3))))))
abbrev s_is_letter : Stmt := top 33
theorem sc_is_letter : FnScope ["thing", "word", "many"] ["thing", "word", "many"] (defScope s_is_letter) := ⟨rfl, rfl, rfl, by decide +kernel, rfl, by decide +kernel, by decide +kernel⟩
theorem d_is_letter {P : Program} {w : World} {K : PySem.W.Frag} {mg : Str → Option Value} {base : Heap} (T : Tx K mg) (f : Addr) (cdv : Value) (A : Around) (outer : List PySem.Env) (s : Shared) (H : Hp) (E : XK) (hr : RoomG 0 (A.deeper (envOfC "is_letter" (defScope s_is_letter) s.heap.objs.size f cdv))) :
    PSsD (dx0 (cxOf CX0 P w K mg base ["thing", "word", "many"] "is_letter" (defScope s_is_letter) f cdv A outer s H E).nox) (defBody s_is_letter) b_is_letter :=
  have hu := hr.units
  (pssd_cons (psd_if (ptd_w (pwd_or (ptd_not (ptd_val (pd_isi rfl T.n_isinstance rfl T.n_tuple (show bootBuiltins "tuple" = some (.type "tuple") by decide +kernel) (by decide) (pd_var 0 (pv 0))))) (pwd_or1 (ptd_cmp (opx_ne hu) mono_oF (pd_callB callx_len rfl T.n_len (show bootBuiltins "len" = some (.builtin "len") by decide +kernel) (pad_cons (pd_var 0 (pv 0)) pad_nil)) (pd_bin opx_add mono_oF (pd_var 2 (pv 2)) pd_int) (nomark _))))) (pssd_one (psd_ret pd_bl)) pssd_nil)
      (pssd_one (psd_ret (pd_and (pd_isi rfl T.n_isinstance rfl T.n_str (show bootBuiltins "str" = some (.type "str") by decide +kernel) (by decide) (pd_ix (pd_var 0 (pv 0)) pd_int (fun _ _ => by with_unfolding_all rfl))) (pd_one (pd_cmp (opx_eq hu) mono_oF (pd_ix (pd_var 0 (pv 0)) pd_int (fun _ _ => by with_unfolding_all rfl)) (pd_var 1 (pv 1)) (nomark _)))))))
abbrev s_Page_see : Stmt := topM 43 16
theorem sc_Page_see : FnScope ["self", "number", "keys", "state"] ["self", "number", "keys", "state"] (defScope s_Page_see) := ⟨rfl, rfl, rfl, by decide +kernel, rfl, by decide +kernel, by decide +kernel⟩
theorem d_Page_see {P : Program} {w : World} {K : PySem.W.Frag} {mg : Str → Option Value} {base : Heap} (T : Tx K mg) (c_reading_of : KnX P w K mg base "reading_of" 6 ["state"] sp_reading_of) (c_letters_of : Kn P w K mg base "letters_of" 1 ["keys"] sp_letters_of) (f : Addr) (cdv : Value) (A : Around) (outer : List PySem.Env) (s : Shared) (H : Hp) (E : XK) (B0 A0 : List Addr) (s0 : Sto) (hr : RoomG 6 (A.deeper (envOfC "Page.see" (defScope s_Page_see) s.heap.objs.size f cdv))) :
    PSsD (dxR P w K mg base ["self", "number", "keys", "state"] "Page.see" (defScope s_Page_see) f cdv A outer s H E rfl B0 A0 s0) (defBody s_Page_see) (b_Page_see fun y fs _ s' => PostX K mg B0 H A0 s0 E y fs s') :=
  have hu := hr.units
  (pssd_cons (psd_if (ptd_w (pwd_or (ptd_not (ptd_val (pd_fld T.f_Page_begun (pd_var 0 (pv 0))))) (pwd_or (ptd_cmp (opx_ne hu) mono_oF (pd_var 1 (pv 1)) (pd_fld T.f_Page_number (pd_var 0 (pv 0))) (nomark _)) (pwd_or1 (ptd_not (ptd_chain opx_lt mono_oF opx_le mono_oF (pd_fld T.f_Page_answered (pd_var 0 (pv 0))) (pd_var 2 (pv 2)) (pd_callB callx_len rfl T.n_len (show bootBuiltins "len" = some (.builtin "len") by decide +kernel) (pad_cons (pd_fld T.f_Page_pressed (pd_var 0 (pv 0))) pad_nil)))))))) (pssd_one psd_retN) pssd_nil)
      (pssd_one (psd_if (ptd_cmp opx_le mono_oF (pd_callB callx_len rfl T.n_len (show bootBuiltins "len" = some (.builtin "len") by decide +kernel) (pad_cons (pd_bin opx_add mono_oF (pd_knX c_reading_of hr rfl (pad_cons (pd_var 3 (pv 3)) pad_nil)) (pd_kn c_letters_of (hr.mono (by decide)) rfl (pad_cons (pd_slice (pd_fld T.f_Page_pressed (pd_var 0 (pv 0))) (pod_some (pd_var 2 (pv 2))) pod_none) pad_nil))) pad_nil)) (pd_gintE rfl T.c_MOST) (nomark _)) (pssd_cons (psd_fld T.f_Page_answered (pd_var 0 (pv 0)) (pd_var 2 (pv 2)))
      (pssd_one (psd_fld T.f_Page_latest (pd_var 0 (pv 0)) (pd_var 3 (pv 3))))) pssd_nil)))
abbrev s_Page_hear : Stmt := topM 43 15
theorem sc_Page_hear : FnScope ["self", "letter", "word", "commit", "segment", "writing"] ["self", "letter"] (defScope s_Page_hear) := ⟨rfl, rfl, rfl, by decide +kernel, rfl, by decide +kernel, by decide +kernel⟩
theorem d_Page_hear {P : Program} {w : World} {K : PySem.W.Frag} {mg : Str → Option Value} {base : Heap} (T : Tx K mg) (c_is_letter : Kn P w K mg base "is_letter" 1 ["thing", "word", "many"] sp_is_letter) (c_is_count : Kn P w K mg base "is_count" 1 ["thing"] sp_is_count) (c_is_state : Kn P w K mg base "is_state" 4 ["thing"] sp_is_state) (c_Page_see : KnM P w K mg base (L2.CX P w) "Page" "see" 7 ["self", "number", "keys", "state"] sp_Page_see) (f : Addr) (cdv : Value) (A : Around) (outer : List PySem.Env) (s : Shared) (H : Hp) (E : XK) (B0 A0 : List Addr) (s0 : Sto) (hr : RoomG 7 (A.deeper (envOfC "Page.hear" (defScope s_Page_hear) s.heap.objs.size f cdv))) :
    PSsD (dxR P w K mg base ["self", "letter", "word", "commit", "segment", "writing"] "Page.hear" (defScope s_Page_hear) f cdv A outer s H E rfl B0 A0 s0) (defBody s_Page_hear) (b_Page_hear fun y fs _ s' => PostX K mg B0 H A0 s0 E y fs s') :=
  have hu := hr.units
  (pssd_cons (psd_if (ptd_w (pwd_and (ptd_val (pd_kn c_is_letter (hr.mono (by decide)) rfl (pad_cons (pd_var 1 (pv 1)) (pad_cons pd_str (pad_cons pd_int pad_nil))))) (pwd_and (ptd_val (pd_kn c_is_count (hr.mono (by decide)) rfl (pad_cons (pd_ix (pd_var 1 (pv 1)) pd_int (fun _ _ => by with_unfolding_all rfl)) pad_nil))) (pwd_and (ptd_val (pd_kn c_is_count (hr.mono (by decide)) rfl (pad_cons (pd_ix (pd_var 1 (pv 1)) pd_int (fun _ _ => by with_unfolding_all rfl)) pad_nil))) (pwd_and1 (ptd_val (pd_kn c_is_state (hr.mono (by decide)) rfl (pad_cons (pd_ix (pd_var 1 (pv 1)) pd_int (fun _ _ => by with_unfolding_all rfl)) pad_nil)))))))) (pssd_cons (psd_expr (pd_meth c_Page_see hr (pd_var 0 (pv 0)) (pad_cons (pd_ix (pd_var 1 (pv 1)) pd_int (fun _ _ => by with_unfolding_all rfl)) (pad_cons (pd_ix (pd_var 1 (pv 1)) pd_int (fun _ _ => by with_unfolding_all rfl)) (pad_cons (pd_ix (pd_var 1 (pv 1)) pd_int (fun _ _ => by with_unfolding_all rfl)) pad_nil))) _))
      (pssd_one (psd_ret (pd_lst pad_nil)))) pssd_nil)
      (pssd_cons psd_never
      (pssd_cons psd_never
      (pssd_cons psd_never
      (pssd_cons psd_never
      (pssd_one psd_never))))))
abbrev s_Page_composed : Stmt := topM 43 18
theorem sc_Page_composed : FnScope ["self"] ["self"] (defScope s_Page_composed) := ⟨rfl, rfl, rfl, by decide +kernel, rfl, by decide +kernel, by decide +kernel⟩
theorem d_Page_composed {P : Program} {w : World} {K : PySem.W.Frag} {mg : Str → Option Value} {base : Heap} (T : Tx K mg) (f : Addr) (cdv : Value) (A : Around) (outer : List PySem.Env) (s : Shared) (H : Hp) (E : XK) (hr : RoomG 0 (A.deeper (envOfC "Page.composed" (defScope s_Page_composed) s.heap.objs.size f cdv))) :
    PSsD (dx0 (cxOf CX0 P w K mg base ["self"] "Page.composed" (defScope s_Page_composed) f cdv A outer s H E).nox) (defBody s_Page_composed) b_Page_composed :=
  have hu := hr.units
  (pssd_one (psd_ret (pd_if (ptd_val (pd_fld T.f_Page_begun (pd_var 0 (pv 0)))) (pd_tup (pad_cons (pd_fld T.f_Page_number (pd_var 0 (pv 0))) (pad_cons (pd_callB callx_len rfl T.n_len (show bootBuiltins "len" = some (.builtin "len") by decide +kernel) (pad_cons (pd_fld T.f_Page_pressed (pd_var 0 (pv 0))) pad_nil)) (pad_cons (pd_fld T.f_Page_answered (pd_var 0 (pv 0))) pad_nil)))) pd_non)))
abbrev s_Page_shown : Stmt := topM 43 19
theorem sc_Page_shown : FnScope ["self"] ["self"] (defScope s_Page_shown) := ⟨rfl, rfl, rfl, by decide +kernel, rfl, by decide +kernel, by decide +kernel⟩
theorem d_Page_shown {P : Program} {w : World} {K : PySem.W.Frag} {mg : Str → Option Value} {base : Heap} (T : Tx K mg) (f : Addr) (cdv : Value) (A : Around) (outer : List PySem.Env) (s : Shared) (H : Hp) (E : XK) (hr : RoomG 0 (A.deeper (envOfC "Page.shown" (defScope s_Page_shown) s.heap.objs.size f cdv))) :
    PSsD (dx0 (cxOf CX0 P w K mg base ["self"] "Page.shown" (defScope s_Page_shown) f cdv A outer s H E).nox) (defBody s_Page_shown) b_Page_shown :=
  have hu := hr.units
  (pssd_one (psd_ret (pd_fld T.f_Page_latest (pd_var 0 (pv 0)))))
abbrev s_text_of : Stmt := top 31
abbrev N_text_of : List Str := ["state", "reading", "writing"]
theorem sc_text_of : FnScope ["state", "reading", "writing"] ["state"] (defScope s_text_of) := ⟨rfl, rfl, rfl, by decide +kernel, rfl, by decide +kernel, by decide +kernel⟩
theorem d_text_of {P : Program} {w : World} {K : PySem.W.Frag} {mg : Str → Option Value} {base : Heap} (T : Tx K mg) (c_need_state : KnX P w K mg base "need_state" 5 ["thing"] sp_need_state) (f : Addr) (cdv : Value) (A : Around) (outer : List PySem.Env) (s : Shared) (H : Hp) (E : XK) (B0 A0 : List Addr) (s0 : Sto) (hr : RoomG 5 (A.deeper (envOfC "text_of" (defScope s_text_of) s.heap.objs.size f cdv))) :
    PSsD (dxR P w K mg base ["state", "reading", "writing"] "text_of" (defScope s_text_of) f cdv A outer s H E rfl B0 A0 s0) (defBody s_text_of) (b_text_of fun y fs _ s' => PostX K mg B0 H A0 s0 E y fs s') :=
  have hu := hr.units
  (pssd_cons (psd_expr (pd_knX c_need_state hr rfl (pad_cons (pd_var 0 (pv 0)) pad_nil)))
      (pssd_one (psd_ret (pd_bin opx_add mono_oF (pd_join pd_str (pd_lc (own := [("reading", 1), ("writing", 2)]) (.many [1, 2]) rfl sc_text_of.nd (pid_any (pd_ix (pd_var 0 (pv 0)) pd_int (fun _ _ => by with_unfolding_all rfl))) (blkOk_by (N := N_text_of) (sc := defScope s_text_of) (own := [("reading", 1), ("writing", 2)]) (by decide +kernel)) ⟨fun _ _ _ _ _ => (pg_tup rfl (pgs_n1 (pg_name (i := 1) sc_text_of.nd rfl (by first | exact Or.inl rfl | exact Or.inr rfl)) (pgs_n1 (pg_name (i := 2) sc_text_of.nd rfl (by first | exact Or.inl rfl | exact Or.inr rfl)) pgs_n0))), fun _ _ _ _ _ => ptsd_nil, fun _ _ _ _ _ => (pd_var 2 (pv 2))⟩ (by decide))) (pd_ix (pd_var 0 (pv 0)) pd_int (fun _ _ => by with_unfolding_all rfl))))))
abbrev s_Page_text : Stmt := topM 43 20
theorem sc_Page_text : FnScope ["self"] ["self"] (defScope s_Page_text) := ⟨rfl, rfl, rfl, by decide +kernel, rfl, by decide +kernel, by decide +kernel⟩
theorem d_Page_text {P : Program} {w : World} {K : PySem.W.Frag} {mg : Str → Option Value} {base : Heap} (T : Tx K mg) (c_text_of : KnX P w K mg base "text_of" 6 ["state"] sp_text_of) (c_Page_since : KnM P w K mg base CX0 "Page" "since" 2 ["self"] sp_Page_since) (f : Addr) (cdv : Value) (A : Around) (outer : List PySem.Env) (s : Shared) (H : Hp) (E : XK) (hr : RoomG 6 (A.deeper (envOfC "Page.text" (defScope s_Page_text) s.heap.objs.size f cdv))) :
    PSsD (dx0 (cxOf CX0 P w K mg base ["self"] "Page.text" (defScope s_Page_text) f cdv A outer s H E).nox) (defBody s_Page_text) b_Page_text :=
  have hu := hr.units
  (pssd_one (psd_ret (pd_bin opx_add mono_oF (pd_knX c_text_of hr rfl (pad_cons (pd_fld T.f_Page_latest (pd_var 0 (pv 0))) pad_nil)) (pd_methN0 c_Page_since (hr.mono (by decide)) (pd_var 0 (pv 0)) _))))
abbrev s_Sheet_signs : Stmt := topM 38 16
abbrev N_Sheet_signs : List Str := ["self", "sign", "origin"]
theorem sc_Sheet_signs : FnScope ["self", "sign", "origin"] ["self"] (defScope s_Sheet_signs) := ⟨rfl, rfl, rfl, by decide +kernel, rfl, by decide +kernel, by decide +kernel⟩
theorem d_Sheet_signs {P : Program} {w : World} {K : PySem.W.Frag} {mg : Str → Option Value} {base : Heap} (T : Tx K mg) (f : Addr) (cdv : Value) (A : Around) (outer : List PySem.Env) (s : Shared) (H : Hp) (E : XK) (hr : RoomG 0 (A.deeper (envOfC "Sheet.signs" (defScope s_Sheet_signs) s.heap.objs.size f cdv))) :
    PSsD (dx0 (cxOf CX0 P w K mg base ["self", "sign", "origin"] "Sheet.signs" (defScope s_Sheet_signs) f cdv A outer s H E).nox) (defBody s_Sheet_signs) b_Sheet_signs :=
  have hu := hr.units
  (pssd_one (psd_ret (pd_join pd_str (pd_lc (own := [("sign", 1), ("origin", 2)]) (.many [1, 2]) rfl sc_Sheet_signs.nd (pid_any (pd_fld T.f_Sheet_cell_row (pd_var 0 (pv 0)))) (blkOk_by (N := N_Sheet_signs) (sc := defScope s_Sheet_signs) (own := [("sign", 1), ("origin", 2)]) (by decide +kernel)) ⟨fun _ _ _ _ _ => (pg_tup rfl (pgs_n1 (pg_name (i := 1) sc_Sheet_signs.nd rfl (by first | exact Or.inl rfl | exact Or.inr rfl)) (pgs_n1 (pg_name (i := 2) sc_Sheet_signs.nd rfl (by first | exact Or.inl rfl | exact Or.inr rfl)) pgs_n0))), fun _ _ _ _ _ => ptsd_nil, fun _ _ _ _ _ => (pd_var 1 (pv 1))⟩ (by decide)))))
abbrev s_Page_signs : Stmt := topM 43 25
theorem sc_Page_signs : FnScope ["self"] ["self"] (defScope s_Page_signs) := ⟨rfl, rfl, rfl, by decide +kernel, rfl, by decide +kernel, by decide +kernel⟩
theorem d_Page_signs {P : Program} {w : World} {K : PySem.W.Frag} {mg : Str → Option Value} {base : Heap} (T : Tx K mg) (c_Sheet_signs : KnM P w K mg base CX0 "Sheet" "signs" 1 ["self"] sp_Sheet_signs) (f : Addr) (cdv : Value) (A : Around) (outer : List PySem.Env) (s : Shared) (H : Hp) (E : XK) (hr : RoomG 1 (A.deeper (envOfC "Page.signs" (defScope s_Page_signs) s.heap.objs.size f cdv))) :
    PSsD (dx0 (cxOf CX0 P w K mg base ["self"] "Page.signs" (defScope s_Page_signs) f cdv A outer s H E).nox) (defBody s_Page_signs) b_Page_signs :=
  have hu := hr.units
  (pssd_one (psd_ret (pd_methN0 c_Sheet_signs hr (pd_fld T.f_Site_sheet (pd_fld T.f_Page_site (pd_var 0 (pv 0)))) _)))
abbrev s_Page_caret : Stmt := topM 43 22
theorem sc_Page_caret : FnScope ["self"] ["self"] (defScope s_Page_caret) := ⟨rfl, rfl, rfl, by decide +kernel, rfl, by decide +kernel, by decide +kernel⟩
theorem d_Page_caret {P : Program} {w : World} {K : PySem.W.Frag} {mg : Str → Option Value} {base : Heap} (T : Tx K mg) (f : Addr) (cdv : Value) (A : Around) (outer : List PySem.Env) (s : Shared) (H : Hp) (E : XK) (hr : RoomG 0 (A.deeper (envOfC "Page.caret" (defScope s_Page_caret) s.heap.objs.size f cdv))) :
    PSsD (dx0 (cxOf CX0 P w K mg base ["self"] "Page.caret" (defScope s_Page_caret) f cdv A outer s H E).nox) (defBody s_Page_caret) b_Page_caret :=
  have hu := hr.units
  (pssd_one (psd_ret (pd_fld T.f_Site_caret_at (pd_fld T.f_Page_site (pd_var 0 (pv 0))))))
abbrev s_Page_covered : Stmt := topM 43 23
theorem sc_Page_covered : FnScope ["self"] ["self"] (defScope s_Page_covered) := ⟨rfl, rfl, rfl, by decide +kernel, rfl, by decide +kernel, by decide +kernel⟩
theorem d_Page_covered {P : Program} {w : World} {K : PySem.W.Frag} {mg : Str → Option Value} {base : Heap} (T : Tx K mg) (f : Addr) (cdv : Value) (A : Around) (outer : List PySem.Env) (s : Shared) (H : Hp) (E : XK) (hr : RoomG 0 (A.deeper (envOfC "Page.covered" (defScope s_Page_covered) s.heap.objs.size f cdv))) :
    PSsD (dx0 (cxOf CX0 P w K mg base ["self"] "Page.covered" (defScope s_Page_covered) f cdv A outer s H E).nox) (defBody s_Page_covered) b_Page_covered :=
  have hu := hr.units
  (pssd_one (psd_ret (pd_fld T.f_Site_covered_many (pd_fld T.f_Page_site (pd_var 0 (pv 0))))))
abbrev s_Page_display : Stmt := topM 43 21
theorem sc_Page_display : FnScope ["self", "signs"] ["self"] (defScope s_Page_display) := ⟨rfl, rfl, rfl, by decide +kernel, rfl, by decide +kernel, by decide +kernel⟩
theorem d_Page_display {P : Program} {w : World} {K : PySem.W.Frag} {mg : Str → Option Value} {base : Heap} (T : Tx K mg) (c_Page_signs : KnM P w K mg base CX0 "Page" "signs" 2 ["self"] sp_Page_signs) (c_Page_caret : KnM P w K mg base CX0 "Page" "caret" 1 ["self"] sp_Page_caret) (c_Page_text : KnM P w K mg base CX0 "Page" "text" 7 ["self"] sp_Page_text) (c_Page_covered : KnM P w K mg base CX0 "Page" "covered" 1 ["self"] sp_Page_covered) (f : Addr) (cdv : Value) (A : Around) (outer : List PySem.Env) (s : Shared) (H : Hp) (E : XK) (hr : RoomG 7 (A.deeper (envOfC "Page.display" (defScope s_Page_display) s.heap.objs.size f cdv))) :
    PSsD (dx0 (cxOf CX0 P w K mg base ["self", "signs"] "Page.display" (defScope s_Page_display) f cdv A outer s H E).nox) (defBody s_Page_display) b_Page_display :=
  have hu := hr.units
  (pssd_cons (psd_set (i := 1) sc_Page_display.nd rfl (by first | exact Or.inl rfl | exact Or.inr rfl) (pd_methN0 c_Page_signs (hr.mono (by decide)) (pd_var 0 (pv 0)) _))
      (pssd_one (psd_ret (pd_bin opx_add mono_oF (pd_bin opx_add mono_oF (pd_slice (pd_var 1 (pv 1)) pod_none (pod_some (pd_methN0 c_Page_caret (hr.mono (by decide)) (pd_var 0 (pv 0)) _))) (pd_methN0 c_Page_text hr (pd_var 0 (pv 0)) _)) (pd_slice (pd_var 1 (pv 1)) (pod_some (pd_bin opx_add mono_oF (pd_methN0 c_Page_caret (hr.mono (by decide)) (pd_var 0 (pv 0)) _) (pd_methN0 c_Page_covered (hr.mono (by decide)) (pd_var 0 (pv 0)) _))) pod_none)))))
abbrev s_Sheet_cells : Stmt := topM 38 15
theorem sc_Sheet_cells : FnScope ["self"] ["self"] (defScope s_Sheet_cells) := ⟨rfl, rfl, rfl, by decide +kernel, rfl, by decide +kernel, by decide +kernel⟩
theorem d_Sheet_cells {P : Program} {w : World} {K : PySem.W.Frag} {mg : Str → Option Value} {base : Heap} (T : Tx K mg) (f : Addr) (cdv : Value) (A : Around) (outer : List PySem.Env) (s : Shared) (H : Hp) (E : XK) (hr : RoomG 0 (A.deeper (envOfC "Sheet.cells" (defScope s_Sheet_cells) s.heap.objs.size f cdv))) :
    PSsD (dx0 (cxOf CX0 P w K mg base ["self"] "Sheet.cells" (defScope s_Sheet_cells) f cdv A outer s H E).nox) (defBody s_Sheet_cells) b_Sheet_cells :=
  have hu := hr.units
  (pssd_one (psd_ret (pd_callTy callx_list rfl T.n_list (show bootBuiltins "list" = some (.type "list") by decide +kernel) (pad_cons (pd_fld T.f_Sheet_cell_row (pd_var 0 (pv 0))) pad_nil))))
abbrev s_Page_cells : Stmt := topM 43 24
theorem sc_Page_cells : FnScope ["self"] ["self"] (defScope s_Page_cells) := ⟨rfl, rfl, rfl, by decide +kernel, rfl, by decide +kernel, by decide +kernel⟩
theorem d_Page_cells {P : Program} {w : World} {K : PySem.W.Frag} {mg : Str → Option Value} {base : Heap} (T : Tx K mg) (c_Sheet_cells : KnM P w K mg base CX0 "Sheet" "cells" 1 ["self"] sp_Sheet_cells) (f : Addr) (cdv : Value) (A : Around) (outer : List PySem.Env) (s : Shared) (H : Hp) (E : XK) (hr : RoomG 1 (A.deeper (envOfC "Page.cells" (defScope s_Page_cells) s.heap.objs.size f cdv))) :
    PSsD (dx0 (cxOf CX0 P w K mg base ["self"] "Page.cells" (defScope s_Page_cells) f cdv A outer s H E).nox) (defBody s_Page_cells) b_Page_cells :=
  have hu := hr.units
  (pssd_one (psd_ret (pd_methN0 c_Sheet_cells hr (pd_fld T.f_Site_sheet (pd_fld T.f_Page_site (pd_var 0 (pv 0)))) _)))
abbrev s_Sheet_need_segment : Stmt := topM 38 4
theorem sc_Sheet_need_segment : FnScope ["self", "commit", "segment"] ["self", "commit", "segment"] (defScope s_Sheet_need_segment) := ⟨rfl, rfl, rfl, by decide +kernel, rfl, by decide +kernel, by decide +kernel⟩
theorem d_Sheet_need_segment {P : Program} {w : World} {K : PySem.W.Frag} {mg : Str → Option Value} {base : Heap} (T : Tx K mg) (c_is_count : Kn P w K mg base "is_count" 1 ["thing"] sp_is_count) (f : Addr) (cdv : Value) (A : Around) (outer : List PySem.Env) (s : Shared) (H : Hp) (E : XK) (B0 A0 : List Addr) (s0 : Sto) (hr : RoomG 1 (A.deeper (envOfC "Sheet.need_segment" (defScope s_Sheet_need_segment) s.heap.objs.size f cdv))) :
    PSsD (dxR P w K mg base ["self", "commit", "segment"] "Sheet.need_segment" (defScope s_Sheet_need_segment) f cdv A outer s H E rfl B0 A0 s0) (defBody s_Sheet_need_segment) (b_Sheet_need_segment fun y fs _ s' => PostX K mg B0 H A0 s0 E y fs s') :=
  have hu := hr.units
  (pssd_cons (psd_if (ptd_w (pwd_or (ptd_not (ptd_val (pd_kn c_is_count hr rfl (pad_cons (pd_var 1 (pv 1)) pad_nil)))) (pwd_or1 (ptd_dnotin hu (pd_var 1 (pv 1)) (pd_fld T.f_Sheet_pair_rows (pd_var 0 (pv 0))) (by with_unfolding_all rfl))))) (pssd_one (psd_raise rfl T.o_NoCommit.choose_spec rfl)) pssd_nil)
      (pssd_one (psd_if (ptd_w (pwd_or (ptd_not (ptd_val (pd_kn c_is_count hr rfl (pad_cons (pd_var 2 (pv 2)) pad_nil)))) (pwd_or1 (ptd_cmp opx_ge mono_oF (pd_var 2 (pv 2)) (pd_callB callx_len rfl T.n_len (show bootBuiltins "len" = some (.builtin "len") by decide +kernel) (pad_cons (pd_dget hu (pd_fld T.f_Sheet_pair_rows (pd_var 0 (pv 0))) (pd_var 1 (pv 1)) (fun _ _ => by with_unfolding_all rfl)) pad_nil)) (nomark _))))) (pssd_one (psd_raise rfl T.o_NoNumber.choose_spec rfl)) pssd_nil)))
abbrev s_Sheet_segment : Stmt := topM 38 19
theorem sc_Sheet_segment : FnScope ["self", "commit", "segment"] ["self", "commit", "segment"] (defScope s_Sheet_segment) := ⟨rfl, rfl, rfl, by decide +kernel, rfl, by decide +kernel, by decide +kernel⟩
theorem d_Sheet_segment {P : Program} {w : World} {K : PySem.W.Frag} {mg : Str → Option Value} {base : Heap} (T : Tx K mg) (c_Sheet_need_segment : KnM P w K mg base (L2.CX P w) "Sheet" "need_segment" 2 ["self", "commit", "segment"] sp_Sheet_need_segment) (f : Addr) (cdv : Value) (A : Around) (outer : List PySem.Env) (s : Shared) (H : Hp) (E : XK) (B0 A0 : List Addr) (s0 : Sto) (hr : RoomG 2 (A.deeper (envOfC "Sheet.segment" (defScope s_Sheet_segment) s.heap.objs.size f cdv))) :
    PSsD (dxR P w K mg base ["self", "commit", "segment"] "Sheet.segment" (defScope s_Sheet_segment) f cdv A outer s H E rfl B0 A0 s0) (defBody s_Sheet_segment) (b_Sheet_segment fun y fs _ s' => PostX K mg B0 H A0 s0 E y fs s') :=
  have hu := hr.units
  (pssd_cons (psd_expr (pd_meth c_Sheet_need_segment hr (pd_var 0 (pv 0)) (pad_cons (pd_var 1 (pv 1)) (pad_cons (pd_var 2 (pv 2)) pad_nil)) _))
      (pssd_one (psd_ret (pd_ix (pd_dget hu (pd_fld T.f_Sheet_pair_rows (pd_var 0 (pv 0))) (pd_var 1 (pv 1)) (fun _ _ => by with_unfolding_all rfl)) (pd_var 2 (pv 2)) (fun _ _ => by with_unfolding_all rfl)))))
abbrev s_cells_of : Stmt := top 37
abbrev N_cells_of : List Str := ["commit", "segment", "writing", "spot", "sign"]
theorem sc_cells_of : FnScope ["commit", "segment", "writing", "spot", "sign"] ["commit", "segment", "writing"] (defScope s_cells_of) := ⟨rfl, rfl, rfl, by decide +kernel, rfl, by decide +kernel, by decide +kernel⟩
theorem d_cells_of {P : Program} {w : World} {K : PySem.W.Frag} {mg : Str → Option Value} {base : Heap} (T : Tx K mg) (f : Addr) (cdv : Value) (A : Around) (outer : List PySem.Env) (s : Shared) (H : Hp) (E : XK) (hr : RoomG 0 (A.deeper (envOfC "cells_of" (defScope s_cells_of) s.heap.objs.size f cdv))) :
    PSsD (dx0 (cxOf CX0 P w K mg base ["commit", "segment", "writing", "spot", "sign"] "cells_of" (defScope s_cells_of) f cdv A outer s H E).nox) (defBody s_cells_of) b_cells_of :=
  have hu := hr.units
  (pssd_one (psd_ret (pd_lc (own := [("spot", 3), ("sign", 4)]) (.many [3, 4]) rfl sc_cells_of.nd (pid_enum rfl T.n_enumerate (pad_cons (pd_var 2 (pv 2)) pad_nil)) (blkOk_by (N := N_cells_of) (sc := defScope s_cells_of) (own := [("spot", 3), ("sign", 4)]) (by decide +kernel)) ⟨fun _ _ _ _ _ => (pg_tup rfl (pgs_n1 (pg_name (i := 3) sc_cells_of.nd rfl (by first | exact Or.inl rfl | exact Or.inr rfl)) (pgs_n1 (pg_name (i := 4) sc_cells_of.nd rfl (by first | exact Or.inl rfl | exact Or.inr rfl)) pgs_n0))), fun _ _ _ _ _ => ptsd_nil, fun _ _ _ _ _ => (pd_tup (pad_cons (pd_var 4 (pv 4)) (pad_cons (pd_tup (pad_cons (pd_var 0 (pv 0)) (pad_cons (pd_var 1 (pv 1)) (pad_cons (pd_var 3 (pv 3)) pad_nil)))) pad_nil)))⟩ (by decide))))
abbrev s_Sheet_where : Stmt := topM 38 20
abbrev N_Sheet_where : List Str := ["self", "commit", "segment", "reading", "writing", "due", "origins", "spots", "sign", "origin", "at"]
theorem sc_Sheet_where : FnScope ["self", "commit", "segment", "reading", "writing", "due", "origins", "spots", "sign", "origin", "at"] ["self", "commit", "segment"] (defScope s_Sheet_where) := ⟨rfl, rfl, rfl, by decide +kernel, rfl, by decide +kernel, by decide +kernel⟩
theorem d_Sheet_where {P : Program} {w : World} {K : PySem.W.Frag} {mg : Str → Option Value} {base : Heap} (T : Tx K mg) (c_Sheet_segment : KnM P w K mg base (L2.CX P w) "Sheet" "segment" 3 ["self", "commit", "segment"] sp_Sheet_segment) (c_cells_of : Kn P w K mg base "cells_of" 1 ["commit", "segment", "writing"] sp_cells_of) (f : Addr) (cdv : Value) (A : Around) (outer : List PySem.Env) (s : Shared) (H : Hp) (E : XK) (B0 A0 : List Addr) (s0 : Sto) (hr : RoomG 3 (A.deeper (envOfC "Sheet.where" (defScope s_Sheet_where) s.heap.objs.size f cdv))) :
    PSsD (dxR P w K mg base ["self", "commit", "segment", "reading", "writing", "due", "origins", "spots", "sign", "origin", "at"] "Sheet.where" (defScope s_Sheet_where) f cdv A outer s H E rfl B0 A0 s0) (defBody s_Sheet_where) (b_Sheet_where fun y fs _ s' => PostX K mg B0 H A0 s0 E y fs s') :=
  have hu := hr.units
  (pssd_cons (psd_asg (pd_meth c_Sheet_segment hr (pd_var 0 (pv 0)) (pad_cons (pd_var 1 (pv 1)) (pad_cons (pd_var 2 (pv 2)) pad_nil)) _) (pgd_tup rfl (pgs_n1 (pg_name (i := 3) sc_Sheet_where.nd rfl (by first | exact Or.inl rfl | exact Or.inr rfl)) (pgs_n1 (pg_name (i := 4) sc_Sheet_where.nd rfl (by first | exact Or.inl rfl | exact Or.inr rfl)) pgs_n0))))
      (pssd_cons (psd_set (i := 5) sc_Sheet_where.nd rfl (by first | exact Or.inl rfl | exact Or.inr rfl) (pd_kn c_cells_of (hr.mono (by decide)) rfl (pad_cons (pd_var 1 (pv 1)) (pad_cons (pd_var 2 (pv 2)) (pad_cons (pd_var 4 (pv 4)) pad_nil)))))
      (pssd_cons (psd_setLc (own := [("sign", 8), ("origin", 9)]) (.many [8, 9]) (i := 6) rfl sc_Sheet_where.nd rfl rfl (sw_true rfl rfl rfl (by decide +kernel)) (pid_any (pd_fld T.f_Sheet_cell_row (pd_var 0 (pv 0)))) (blkOk_by (N := N_Sheet_where) (sc := defScope s_Sheet_where) (own := [("sign", 8), ("origin", 9)]) (by decide +kernel)) ⟨fun _ _ _ _ _ => (pg_tup rfl (pgs_n1 (pg_name (i := 8) sc_Sheet_where.nd rfl (by first | exact Or.inl rfl | exact Or.inr rfl)) (pgs_n1 (pg_name (i := 9) sc_Sheet_where.nd rfl (by first | exact Or.inl rfl | exact Or.inr rfl)) pgs_n0))), fun _ _ _ _ _ => ptsd_nil, fun _ _ _ _ _ => (pd_var 9 (pv 9))⟩ (by decide))
      (pssd_cons (psd_setLc (own := [("at", 10), ("origin", 9)]) (.many [10, 9]) (i := 7) rfl sc_Sheet_where.nd rfl rfl (sw_true rfl rfl rfl (by decide +kernel)) (pid_enumL rfl T.n_enumerate (pad_cons (pd_var 6 (pv 6)) pad_nil)) (blkOk_by (N := N_Sheet_where) (sc := defScope s_Sheet_where) (own := [("at", 10), ("origin", 9)]) (by decide +kernel)) ⟨fun _ _ _ _ _ => (pg_tup rfl (pgs_n1 (pg_name (i := 10) sc_Sheet_where.nd rfl (by first | exact Or.inl rfl | exact Or.inr rfl)) (pgs_n1 (pg_name (i := 9) sc_Sheet_where.nd rfl (by first | exact Or.inl rfl | exact Or.inr rfl)) pgs_n0))), fun _ _ _ _ _ => (ptsd_one (ptd_w (pwd_and (ptd_cmp opx_isNot mono_oF (pd_var 9 (pv 9)) pd_non (nomark _)) (pwd_and1 (ptd_cmp (opx_eq hu) mono_oF (pd_slice (pd_var 9 (pv 9)) pod_none (pod_some pd_int)) (pd_tup (pad_cons (pd_var 1 (pv 1)) (pad_cons (pd_var 2 (pv 2)) pad_nil))) (nomark _)))))), fun _ _ _ _ _ => (pd_var 10 (pv 10))⟩ (by decide))
      (pssd_cons (psd_if (ptd_w (pwd_or (ptd_cmp (opx_ne hu) mono_oF (pd_callB callx_len rfl T.n_len (show bootBuiltins "len" = some (.builtin "len") by decide +kernel) (pad_cons (pd_var 7 (pv 7)) pad_nil)) (pd_callB callx_len rfl T.n_len (show bootBuiltins "len" = some (.builtin "len") by decide +kernel) (pad_cons (pd_var 5 (pv 5)) pad_nil)) (nomark _)) (pwd_or1 (ptd_cmp (opx_ne hu) mono_oF (pd_slice (pd_fld T.f_Sheet_cell_row (pd_var 0 (pv 0))) (pod_some (pd_ix (pd_var 7 (pv 7)) pd_int (fun _ _ => by with_unfolding_all rfl))) (pod_some (pd_bin opx_add mono_oF (pd_ix (pd_var 7 (pv 7)) pd_int (fun _ _ => by with_unfolding_all rfl)) (pd_callB callx_len rfl T.n_len (show bootBuiltins "len" = some (.builtin "len") by decide +kernel) (pad_cons (pd_var 5 (pv 5)) pad_nil))))) (pd_var 5 (pv 5)) (nomark _))))) (pssd_one (psd_ret pd_non)) pssd_nil)
      (pssd_one (psd_ret (pd_ix (pd_var 7 (pv 7)) pd_int (fun _ _ => by with_unfolding_all rfl)))))))))
abbrev s_Sheet_words : Stmt := topM 38 22
theorem sc_Sheet_words : FnScope ["self", "found", "commit", "at", "reading", "writing"] ["self"] (defScope s_Sheet_words) := ⟨rfl, rfl, rfl, by decide +kernel, rfl, by decide +kernel, by decide +kernel⟩
theorem d_Sheet_words {P : Program} {w : World} {K : PySem.W.Frag} {mg : Str → Option Value} {base : Heap} (T : Tx K mg) (c_Sheet_where : KnM P w K mg base (L2.CX P w) "Sheet" "where" 4 ["self", "commit", "segment"] sp_Sheet_where) (f : Addr) (cdv : Value) (A : Around) (outer : List PySem.Env) (s : Shared) (H : Hp) (E : XK) (hr : RoomG 4 (A.deeper (envOfC "Sheet.words" (defScope s_Sheet_words) s.heap.objs.size f cdv))) :
    PSsD (dx0 (cxOf CX0 P w K mg base ["self", "found", "commit", "at", "reading", "writing"] "Sheet.words" (defScope s_Sheet_words) f cdv A outer s H E).nox) (defBody s_Sheet_words) b_Sheet_words :=
  have hu := hr.units
  (pssd_cons (psd_set (i := 1) sc_Sheet_words.nd rfl (by first | exact Or.inl rfl | exact Or.inr rfl) (pd_new pad_nil))
      (pssd_cons (psd_for PassesOwn.never rfl (pid_any (pd_fld T.f_Sheet_upright (pd_var 0 (pv 0)))) (pgd_name (i := 2) (pg_name (i := 2) sc_Sheet_words.nd rfl (by first | exact Or.inl rfl | exact Or.inr rfl))) (pssd_one (psd_for PassesOwn.never rfl (pid_enumT rfl T.n_enumerate (pad_cons (pd_dget hu (pd_fld T.f_Sheet_pair_rows (pd_var 0 (pv 0))) (pd_var 2 (pv 2)) (fun _ _ => by with_unfolding_all rfl)) pad_nil)) (pgd_two rfl (pgd_name (i := 3) (pg_name (i := 3) sc_Sheet_words.nd rfl (by first | exact Or.inl rfl | exact Or.inr rfl))) (pgd_tup rfl (pgs_n1 (pg_name (i := 4) sc_Sheet_words.nd rfl (by first | exact Or.inl rfl | exact Or.inr rfl)) (pgs_n1 (pg_name (i := 5) sc_Sheet_words.nd rfl (by first | exact Or.inl rfl | exact Or.inr rfl)) pgs_n0)))) (pssd_one (psd_if (ptd_w (pwd_and (ptd_cmp (opx_ne hu) mono_oF (pd_var 5 (pv 5)) (pd_var 4 (pv 4)) (nomark _)) (pwd_and1 (ptd_cmp opx_isNot mono_oF (pd_meth c_Sheet_where hr (pd_var 0 (pv 0)) (pad_cons (pd_var 2 (pv 2)) (pad_cons (pd_var 3 (pv 3)) pad_nil)) _) pd_non (nomark _))))) (pssd_one (psd_expr (pd_mt PySem.F.slot_list_append PySem.F.type_list_append mtx_append (pd_var 1 (pv 1)) (pad_cons (pd_tup (pad_cons (pd_var 4 (pv 4)) (pad_cons (pd_var 5 (pv 5)) pad_nil))) pad_nil)))) pssd_nil)))))
      (pssd_one (psd_ret (pd_frz (pd_var 1 (pv 1)))))))
abbrev s_Page_words : Stmt := topM 43 28
theorem sc_Page_words : FnScope ["self"] ["self"] (defScope s_Page_words) := ⟨rfl, rfl, rfl, by decide +kernel, rfl, by decide +kernel, by decide +kernel⟩
theorem d_Page_words {P : Program} {w : World} {K : PySem.W.Frag} {mg : Str → Option Value} {base : Heap} (T : Tx K mg) (c_Sheet_words : KnM P w K mg base CX0 "Sheet" "words" 5 ["self"] sp_Sheet_words) (f : Addr) (cdv : Value) (A : Around) (outer : List PySem.Env) (s : Shared) (H : Hp) (E : XK) (hr : RoomG 5 (A.deeper (envOfC "Page.words" (defScope s_Page_words) s.heap.objs.size f cdv))) :
    PSsD (dx0 (cxOf CX0 P w K mg base ["self"] "Page.words" (defScope s_Page_words) f cdv A outer s H E).nox) (defBody s_Page_words) b_Page_words :=
  have hu := hr.units
  (pssd_one (psd_ret (pd_methN0 c_Sheet_words hr (pd_fld T.f_Site_sheet (pd_fld T.f_Page_site (pd_var 0 (pv 0)))) _)))
abbrev s_Sheet_steps : Stmt := topM 38 17
theorem sc_Sheet_steps : FnScope ["self"] ["self"] (defScope s_Sheet_steps) := ⟨rfl, rfl, rfl, by decide +kernel, rfl, by decide +kernel, by decide +kernel⟩
theorem d_Sheet_steps {P : Program} {w : World} {K : PySem.W.Frag} {mg : Str → Option Value} {base : Heap} (T : Tx K mg) (f : Addr) (cdv : Value) (A : Around) (outer : List PySem.Env) (s : Shared) (H : Hp) (E : XK) (hr : RoomG 0 (A.deeper (envOfC "Sheet.steps" (defScope s_Sheet_steps) s.heap.objs.size f cdv))) :
    PSsD (dx0 (cxOf CX0 P w K mg base ["self"] "Sheet.steps" (defScope s_Sheet_steps) f cdv A outer s H E).nox) (defBody s_Sheet_steps) b_Sheet_steps :=
  have hu := hr.units
  (pssd_one (psd_ret (pd_tup (pad_cons (pd_callB callx_len rfl T.n_len (show bootBuiltins "len" = some (.builtin "len") by decide +kernel) (pad_cons (pd_fld T.f_Sheet_past (pd_var 0 (pv 0))) pad_nil)) (pad_cons (pd_callB callx_len rfl T.n_len (show bootBuiltins "len" = some (.builtin "len") by decide +kernel) (pad_cons (pd_fld T.f_Sheet_later (pd_var 0 (pv 0))) pad_nil)) pad_nil)))))
abbrev s_Page_steps : Stmt := topM 43 26
theorem sc_Page_steps : FnScope ["self"] ["self"] (defScope s_Page_steps) := ⟨rfl, rfl, rfl, by decide +kernel, rfl, by decide +kernel, by decide +kernel⟩
theorem d_Page_steps {P : Program} {w : World} {K : PySem.W.Frag} {mg : Str → Option Value} {base : Heap} (T : Tx K mg) (c_Sheet_steps : KnM P w K mg base CX0 "Sheet" "steps" 1 ["self"] sp_Sheet_steps) (f : Addr) (cdv : Value) (A : Around) (outer : List PySem.Env) (s : Shared) (H : Hp) (E : XK) (hr : RoomG 1 (A.deeper (envOfC "Page.steps" (defScope s_Page_steps) s.heap.objs.size f cdv))) :
    PSsD (dx0 (cxOf CX0 P w K mg base ["self"] "Page.steps" (defScope s_Page_steps) f cdv A outer s H E).nox) (defBody s_Page_steps) b_Page_steps :=
  have hu := hr.units
  (pssd_one (psd_ret (pd_methN0 c_Sheet_steps hr (pd_fld T.f_Site_sheet (pd_fld T.f_Page_site (pd_var 0 (pv 0)))) _)))
abbrev s__law_told_right : Stmt := top 52
abbrev N__law_told_right : List Str := ["page", "pressed", "answered", "state", "text", "reading", "writing"]
theorem sc__law_told_right : FnScope ["page", "pressed", "answered", "state", "text", "reading", "writing"] ["page", "pressed", "answered", "state"] (defScope s__law_told_right) := ⟨rfl, rfl, rfl, by decide +kernel, rfl, by decide +kernel, by decide +kernel⟩
theorem d__law_told_right {P : Program} {w : World} {K : PySem.W.Frag} {mg : Str → Option Value} {base : Heap} (T : Tx K mg) (c__law_since : Kn P w K mg base "_law_since" 1 ["pressed", "answered"] sp__law_since) (c_Page_composed : KnM P w K mg base CX0 "Page" "composed" 1 ["self"] sp_Page_composed) (c_Page_shown : KnM P w K mg base CX0 "Page" "shown" 1 ["self"] sp_Page_shown) (c_Page_text : KnM P w K mg base CX0 "Page" "text" 7 ["self"] sp_Page_text) (c_Page_display : KnM P w K mg base CX0 "Page" "display" 8 ["self"] sp_Page_display) (c_Page_caret : KnM P w K mg base CX0 "Page" "caret" 1 ["self"] sp_Page_caret) (c_Page_covered : KnM P w K mg base CX0 "Page" "covered" 1 ["self"] sp_Page_covered) (c_Page_cells : KnM P w K mg base CX0 "Page" "cells" 2 ["self"] sp_Page_cells) (c_Page_words : KnM P w K mg base CX0 "Page" "words" 6 ["self"] sp_Page_words) (c_Page_steps : KnM P w K mg base CX0 "Page" "steps" 2 ["self"] sp_Page_steps) (f : Addr) (cdv : Value) (A : Around) (outer : List PySem.Env) (s : Shared) (H : Hp) (E : XK) (hr : RoomG 8 (A.deeper (envOfC "_law_told_right" (defScope s__law_told_right) s.heap.objs.size f cdv))) :
    PSsD (dx0 (cxOf CX0 P w K mg base ["page", "pressed", "answered", "state", "text", "reading", "writing"] "_law_told_right" (defScope s__law_told_right) f cdv A outer s H E).nox) (defBody s__law_told_right) b__law_told_right :=
  have hu := hr.units
  (pssd_cons (psd_set (i := 4) sc__law_told_right.nd rfl (by first | exact Or.inl rfl | exact Or.inr rfl) (pd_bin opx_add mono_oF (pd_join pd_str (pd_lc (own := [("reading", 5), ("writing", 6)]) (.many [5, 6]) rfl sc__law_told_right.nd (pid_any (pd_ix (pd_var 3 (pv 3)) pd_int (fun _ _ => by with_unfolding_all rfl))) (blkOk_by (N := N__law_told_right) (sc := defScope s__law_told_right) (own := [("reading", 5), ("writing", 6)]) (by decide +kernel)) ⟨fun _ _ _ _ _ => (pg_tup rfl (pgs_n1 (pg_name (i := 5) sc__law_told_right.nd rfl (by first | exact Or.inl rfl | exact Or.inr rfl)) (pgs_n1 (pg_name (i := 6) sc__law_told_right.nd rfl (by first | exact Or.inl rfl | exact Or.inr rfl)) pgs_n0))), fun _ _ _ _ _ => ptsd_nil, fun _ _ _ _ _ => (pd_var 6 (pv 6))⟩ (by decide))) (pd_ix (pd_var 3 (pv 3)) pd_int (fun _ _ => by with_unfolding_all rfl))))
      (pssd_cons (psd_set (i := 4) sc__law_told_right.nd rfl (by first | exact Or.inl rfl | exact Or.inr rfl) (pd_bin opx_add mono_oF (pd_var 4 (pv 4)) (pd_kn c__law_since (hr.mono (by decide)) rfl (pad_cons (pd_var 1 (pv 1)) (pad_cons (pd_var 2 (pv 2)) pad_nil)))))
      (pssd_cons (psd_if (ptd_cmp (opx_ne hu) mono_oF (pd_methN0 c_Page_composed (hr.mono (by decide)) (pd_var 0 (pv 0)) _) (pd_ix (pd_lst (pad_cons (pd_tup (pad_cons pd_int (pad_cons (pd_callB callx_len rfl T.n_len (show bootBuiltins "len" = some (.builtin "len") by decide +kernel) (pad_cons (pd_var 1 (pv 1)) pad_nil)) (pad_cons (pd_var 2 (pv 2)) pad_nil)))) (pad_cons pd_non pad_nil))) (pd_callTy callx_int rfl T.n_int (show bootBuiltins "int" = some (.type "int") by decide +kernel) (pad_cons (pd_cmp (opx_eq hu) mono_oF (pd_var 1 (pv 1)) (pd_lst pad_nil) (nomark _)) pad_nil)) (fun _ _ => by with_unfolding_all rfl)) (nomark _)) (pssd_one (psd_ret pd_bl)) pssd_nil)
      (pssd_cons (psd_if (ptd_w (pwd_or (ptd_cmp (opx_ne hu) mono_oF (pd_methN0 c_Page_shown (hr.mono (by decide)) (pd_var 0 (pv 0)) _) (pd_var 3 (pv 3)) (nomark _)) (pwd_or (ptd_cmp (opx_ne hu) mono_oF (pd_methN0 c_Page_text (hr.mono (by decide)) (pd_var 0 (pv 0)) _) (pd_var 4 (pv 4)) (nomark _)) (pwd_or1 (ptd_cmp (opx_ne hu) mono_oF (pd_methN0 c_Page_display hr (pd_var 0 (pv 0)) _) (pd_var 4 (pv 4)) (nomark _)))))) (pssd_one (psd_ret pd_bl)) pssd_nil)
      (pssd_one (psd_ret (pd_cmp (opx_eq hu) mono_oF (pd_lst (pad_cons (pd_methN0 c_Page_caret (hr.mono (by decide)) (pd_var 0 (pv 0)) _) (pad_cons (pd_methN0 c_Page_covered (hr.mono (by decide)) (pd_var 0 (pv 0)) _) (pad_cons (pd_methN0 c_Page_cells (hr.mono (by decide)) (pd_var 0 (pv 0)) _) (pad_cons (pd_methN0 c_Page_words (hr.mono (by decide)) (pd_var 0 (pv 0)) _) (pad_cons (pd_methN0 c_Page_steps (hr.mono (by decide)) (pd_var 0 (pv 0)) _) pad_nil)))))) (pd_lst (pad_cons pd_int (pad_cons pd_int (pad_cons (pd_lst pad_nil) (pad_cons (pd_lst pad_nil) (pad_cons (pd_tup (pad_cons pd_int (pad_cons pd_int pad_nil))) pad_nil)))))) (nomark _))))))))
abbrev s_law : Stmt := top 55
theorem sc_law : FnScope ["script", "k", "bag", "page", "pressed", "answered", "state", "letters", "turn", "key", "keys", "some"] ["script"] (defScope s_law) := ⟨rfl, rfl, rfl, by decide +kernel, rfl, by decide +kernel, by decide +kernel⟩
theorem d_law {P : Program} {w : World} {K : PySem.W.Frag} {mg : Str → Option Value} {base : Heap} (T : Tx K mg) (c__law_bag : Kn P w K mg base "_law_bag" 1 ["script", "k"] sp__law_bag) (c_Page___init__ : KnI P w K mg base "Page" 5 ["self"] sp_Page___init__) (c__law_take : Kn P w K mg base "_law_take" 1 ["bag", "many"] sp__law_take) (c__law_word : Kn P w K mg base "_law_word" 2 ["bag", "most"] sp__law_word) (c__law_key : Kn P w K mg base "_law_key" 3 ["bag"] sp__law_key) (c__law_key_right : Kn P w K mg base "_law_key_right" 8 ["page", "pressed", "answered", "state", "key"] sp__law_key_right) (c__law_shown : Kn P w K mg base "_law_shown" 4 ["bag", "pressed", "most"] sp__law_shown) (c__law_since : Kn P w K mg base "_law_since" 1 ["pressed", "answered"] sp__law_since) (c_Page_hear : KnM P w K mg base (L2.CX P w) "Page" "hear" 8 ["self", "letter"] sp_Page_hear) (c__law_told_right : Kn P w K mg base "_law_told_right" 9 ["page", "pressed", "answered", "state"] sp__law_told_right) (f : Addr) (cdv : Value) (A : Around) (outer : List PySem.Env) (s : Shared) (H : Hp) (E : XK) (hr : RoomG 9 (A.deeper (envOfC "law" (defScope s_law) s.heap.objs.size f cdv))) :
    PSsD (dx0 (cxOf CX0 P w K mg base ["script", "k", "bag", "page", "pressed", "answered", "state", "letters", "turn", "key", "keys", "some"] "law" (defScope s_law) f cdv A outer s H E).nox) (defBody s_law) b_law :=
  have hu := hr.units
  (pssd_cons (psd_for PassesOwn.never rfl (pid_range1 rfl T.n_range (pad_cons (pd_callB (callx_max2 rfl) rfl T.n_max (show bootBuiltins "max" = some (.builtin "max") by decide +kernel) (pad_cons pd_int (pad_cons (pd_callB (callx_min2 rfl) rfl T.n_min (show bootBuiltins "min" = some (.builtin "min") by decide +kernel) (pad_cons pd_int (pad_cons (pd_callB callx_len rfl T.n_len (show bootBuiltins "len" = some (.builtin "len") by decide +kernel) (pad_cons (pd_var 0 (pv 0)) pad_nil)) pad_nil))) pad_nil))) pad_nil)) (pgd_name (i := 1) (pg_name (i := 1) sc_law.nd rfl (by first | exact Or.inl rfl | exact Or.inr rfl))) (pssd_cons (psd_set (i := 2) sc_law.nd rfl (by first | exact Or.inl rfl | exact Or.inr rfl) (pd_kn c__law_bag (hr.mono (by decide)) rfl (pad_cons (pd_var 0 (pv 0)) (pad_cons (pd_var 1 (pv 1)) pad_nil))))
      (pssd_cons (psd_set (i := 3) sc_law.nd rfl (by first | exact Or.inl rfl | exact Or.inr rfl) (pd_make0 c_Page___init__ (hr.mono (by decide)) rfl))
      (pssd_cons (psd_par3 (i := 4) (j := 5) (l := 6) rfl sc_law.nd rfl rfl rfl (by decide) (by decide) (by decide) rfl rfl rfl (pad_cons (pd_new pad_nil) (pad_cons pd_int (pad_cons (pd_tup (pad_cons (pd_tup pad_nil) (pad_cons pd_int (pad_cons pd_str pad_nil)))) pad_nil))))
      (pssd_cons (psd_set (i := 7) sc_law.nd rfl (by first | exact Or.inl rfl | exact Or.inr rfl) (pd_cmp (opx_eq hu) mono_oF (pd_kn c__law_take (hr.mono (by decide)) rfl (pad_cons (pd_var 2 (pv 2)) (pad_cons pd_int pad_nil))) pd_int (nomark _)))
      (pssd_one (psd_for PassesOwn.never rfl (pid_range1 rfl T.n_range (pad_cons (pd_ix (pd_lst (pad_cons pd_int (pad_cons pd_int pad_nil))) (pd_callTy callx_int rfl T.n_int (show bootBuiltins "int" = some (.type "int") by decide +kernel) (pad_cons (pd_var 7 (pv 7)) pad_nil)) (fun _ _ => by with_unfolding_all rfl)) pad_nil)) (pgd_name (i := 8) (pg_name (i := 8) sc_law.nd rfl (by first | exact Or.inl rfl | exact Or.inr rfl))) (pssd_cons (psd_set (i := 9) sc_law.nd rfl (by first | exact Or.inl rfl | exact Or.inr rfl) (pd_if (ptd_val (pd_var 7 (pv 7))) (pd_kn c__law_word (hr.mono (by decide)) rfl (pad_cons (pd_var 2 (pv 2)) (pad_cons pd_int pad_nil))) (pd_kn c__law_key (hr.mono (by decide)) rfl (pad_cons (pd_var 2 (pv 2)) pad_nil))))
      (pssd_cons (psd_if (ptd_not (ptd_val (pd_kn c__law_key_right (hr.mono (by decide)) rfl (pad_cons (pd_var 3 (pv 3)) (pad_cons (pd_var 4 (pv 4)) (pad_cons (pd_var 5 (pv 5)) (pad_cons (pd_var 6 (pv 6)) (pad_cons (pd_var 9 (pv 9)) pad_nil)))))))) (pssd_one (psd_ret pd_bl)) pssd_nil)
      (pssd_cons (psd_if (ptd_w (pwd_and (ptd_cmp opx_lt mono_oF (pd_var 5 (pv 5)) (pd_callB callx_len rfl T.n_len (show bootBuiltins "len" = some (.builtin "len") by decide +kernel) (pad_cons (pd_var 4 (pv 4)) pad_nil)) (nomark _)) (pwd_and1 (ptd_cmp (opx_eq hu) mono_oF (pd_kn c__law_take (hr.mono (by decide)) rfl (pad_cons (pd_var 2 (pv 2)) (pad_cons pd_int pad_nil))) pd_int (nomark _))))) (pssd_cons (psd_set (i := 10) sc_law.nd rfl (by first | exact Or.inl rfl | exact Or.inr rfl) (pd_bin opx_add mono_oF (pd_bin opx_add mono_oF (pd_var 5 (pv 5)) pd_int) (pd_kn c__law_take (hr.mono (by decide)) rfl (pad_cons (pd_var 2 (pv 2)) (pad_cons (pd_bin opx_sub mono_oF (pd_callB callx_len rfl T.n_len (show bootBuiltins "len" = some (.builtin "len") by decide +kernel) (pad_cons (pd_var 4 (pv 4)) pad_nil)) (pd_var 5 (pv 5))) pad_nil)))))
      (pssd_cons (psd_set (i := 11) sc_law.nd rfl (by first | exact Or.inl rfl | exact Or.inr rfl) (pd_kn c__law_shown (hr.mono (by decide)) rfl (pad_cons (pd_var 2 (pv 2)) (pad_cons (pd_var 4 (pv 4)) (pad_cons (pd_callB (callx_max2 rfl) rfl T.n_max (show bootBuiltins "max" = some (.builtin "max") by decide +kernel) (pad_cons pd_int (pad_cons (pd_bin opx_sub mono_oF pd_int (pd_callB callx_len rfl T.n_len (show bootBuiltins "len" = some (.builtin "len") by decide +kernel) (pad_cons (pd_kn c__law_since (hr.mono (by decide)) rfl (pad_cons (pd_var 4 (pv 4)) (pad_cons (pd_var 10 (pv 10)) pad_nil))) pad_nil))) pad_nil))) pad_nil)))))
      (pssd_cons (psd_if (ptd_cmp (opx_ne hu) mono_oF (pd_meth c_Page_hear (hr.mono (by decide)) (pd_var 3 (pv 3)) (pad_cons (pd_tup (pad_cons pd_str (pad_cons pd_int (pad_cons (pd_var 10 (pv 10)) (pad_cons (pd_var 11 (pv 11)) pad_nil))))) pad_nil) _) (pd_lst pad_nil) (nomark _)) (pssd_one (psd_ret pd_bl)) pssd_nil)
      (pssd_one (psd_par2 (i := 5) (j := 6) rfl sc_law.nd rfl rfl (by decide) rfl rfl (pad_cons (pd_var 10 (pv 10)) (pad_cons (pd_var 11 (pv 11)) pad_nil))))))) pssd_nil)
      (pssd_one (psd_if (ptd_not (ptd_val (pd_kn c__law_told_right hr rfl (pad_cons (pd_var 3 (pv 3)) (pad_cons (pd_var 4 (pv 4)) (pad_cons (pd_var 5 (pv 5)) (pad_cons (pd_var 6 (pv 6)) pad_nil))))))) (pssd_one (psd_ret pd_bl)) pssd_nil))))))))))))
      (pssd_one (psd_ret pd_bl)))
end Qk47
set_option Elab.async false
set_option linter.all false
set_option autoImplicit false
set_option maxRecDepth 100000
set_option maxHeartbeats 600000
namespace Qk47
open PySem PySem.Spec PyProof.Rows L2 Dl Bk Su Pg
open Fb (Kp Kp.app Kp.set Kp.trans Kp.refl Kp.get Ps Ps.up Ps.lt Ps.app Ps.set)
open Fi (keyF sp_is_key namedL)
open Tt (segD stD stateF StOk Stb ok_of sp_is_state)
open Fa (ifD ifB ifT ifF fapp)
open Ba (ixm az_sub cut_mem cut_lenS sumL sumL_app sumL_nn)
open Sx (Cell sgD ceD Pairs psD inD cellsW cellsF putC allSegs whereC opD SgOk len_rf)
theorem key_one {z : Str} (hz : sgnIn az z = true) (h1 : 1 ≤ z.length) (h2 : (z.length : Int) ≤ 1) : keyF (.str z) = true := by
  show (decide (z ∈ namedL) || (sgnIn "abcdefghijklmnopqrstuvwxyz" z && (decide (1 ≤ (z.length : Int)) && decide ((z.length : Int) ≤ 1)))) = true
  rw [show sgnIn "abcdefghijklmnopqrstuvwxyz" z = true from hz, decide_eq_true (by omega : 1 ≤ (z.length : Int)), decide_eq_true h2, Bool.true_and, Bool.true_and, Bool.or_true]
theorem reads_len (sg : Pairs) (t : Str) : ((readsT sg t).length : Int) = sumL sg + (t.length : Int) := by
  unfold readsT
  rw [app_len, join_lens, List.map_map]
  have : ∀ l : Pairs, (((l.map ((fun k : Str => k.length) ∘ (·.1))).sum : Nat) : Int) = sumL l := fun l => by
    induction l with
    | nil => rfl
    | cons p l ih =>
      show _ = ((p :: l).map fun p => (p.1.length : Int)).sum
      rw [List.map_cons, List.map_cons, List.sum_cons, List.sum_cons, ← show sumL l = (l.map fun p => (p.1.length : Int)).sum from rfl, ← ih]
      push_cast; rfl
  push_cast
  rw [← this]
theorem len0_nil {z : Str} (h : z.length = 0) : z = "" := by
  cases z with
  | mk a =>
    have h : a.size = 0 := h
    rw [Array.eq_empty_of_size_eq_zero h]; rfl
theorem sumL_take (sg : Pairs) (n : Nat) : sumL (sg.take n) ≤ sumL sg := by
  have h := List.take_append_drop n sg
  have h2 := sumL_nn (sg.drop n)
  have : sumL sg = sumL (sg.take n) + sumL (sg.drop n) := by
    show (sg.map fun p => (p.1.length : Int)).sum = ((sg.take n).map fun p => (p.1.length : Int)).sum + ((sg.drop n).map fun p => (p.1.length : Int)).sum
    rw [← List.sum_append, ← List.map_append, h]
  omega
/-- a state of fewer letters is one -/
theorem StOk.less {sg : Pairs} {i : Int} {t : Str} (h : StOk sg i t) {n : Nat} {i' : Int} {t' : Str} (hi : i' = 0 ∨ (i' = i ∧ sg.length ≤ n)) (ht : sgnIn az t' = true) (hl : t'.length ≤ t.length) : StOk (sg.take n) i' t' := by
  have h1 := sumL_take sg n
  have h2 : (t.length : Int) + sumL sg ≤ 40 := h.sum
  refine ⟨fun p hp => h.seg p (List.mem_of_mem_take hp), ?_, ?_, ht, (by show (t'.length : Int) + sumL (sg.take n) ≤ 40; omega)⟩
  · rcases hi with rfl | ⟨rfl, _⟩
    · exact Int.le_refl _
    · exact h.i0
  · rcases hi with rfl | ⟨rfl, hn⟩
    · split <;> omega
    · rw [List.take_of_length_le hn]; exact h.at_
section
variable (ds : List D) (s : Sto) (Q : D → Sto → Prop) (E : XD)
theorem pf__law_key (h : sp__law_key ds s Q E) : b__law_key (endsOf Q) (envD ["bag", "names", "turn"] ds) s := by
  obtain ⟨c, p, rfl, S, hc, q⟩ := h
  have hL := sizeLine_eq
  refine ⟨Dl.ll, _, rfl, c, p, 16, rfl, S, by omega, by decide, by decide, fun i s1 a b S1 K1 l1 => ?_⟩
  refine ⟨_, rfl, _, rfl, _, rfl, ifD (fun h => ?_) fun h => ?_⟩
  · have h : i < 10 := h
    obtain ⟨y, hy, my⟩ := ixm (xs := [D.str "rub", .str "turn", .str "next", .str "back", .str "left", .str "right", .str "wider", .str "narrower", .str "plain", .str "turn"]) a h
    have hy' : ∃ z : Str, y = .str z ∧ keyF (.str z) = true := by
      simp only [List.mem_cons, List.not_mem_nil, or_false] at my
      rcases my with rfl | rfl | rfl | rfl | rfl | rfl | rfl | rfl | rfl | rfl <;> exact ⟨_, rfl, by decide +kernel⟩
    obtain ⟨z, rfl, hz⟩ := hy'
    exact ⟨_, rfl, _, rfl, _, hy _, q z s1 hz (S1.up (by omega)) K1 l1⟩
  · refine ⟨_, rfl, _, p, 1, rfl, by decide, by decide, S1, by omega, fun z s2 hz z1 z2 S2 K2 l2 => ?_⟩
    exact q z s2 (key_one hz z1 z2) (S2.up (by omega)) (K1.trans K2) (l2.trans l1)
theorem pf__law_reading (h : sp__law_reading ds s Q E) : b__law_reading (endsOf Q) (envD ["state", "reading", "writing"] ds) s := by
  obtain ⟨segs, i, t, rfl, ok, q⟩ := h
  obtain ⟨l1, l2⟩ := seg_lens ok.b
  have hL := sizeLine_eq
  refine ⟨_, rfl, _, rfl, _, rfl, _, _, isW_tup, le_line (by rw [List.length_map]; have := ok.b.n; omega), ?_⟩
  refine lcD_pure (fun _ => true) (fun d => match d with | .tup [a, _] => a | d => d) trivial (fun d hd k1 k0 h1 h0 => ?_) ?_
  · obtain ⟨p, hp, rfl⟩ := List.mem_map.mp hd
    exact ⟨_, rfl, rfl, _, rfl, h1 rfl⟩
  rw [List.filter_eq_self.mpr (fun _ _ => rfl), show (segs.map segD).map (fun d => match d with | .tup [a, _] => a | d => d) = (segs.map (·.1)).map D.str by rw [List.map_map, List.map_map]; rfl]
  refine ⟨_, _, rfl, strsOf_map _, by omega, ?_⟩
  have := join_le2 l1
  have := ok.b.t
  exact ⟨_, rfl, _, rfl, _, adds (by omega), q⟩
theorem pf__law_since (h : sp__law_since ds s Q E) : b__law_since (endsOf Q) (envD ["pressed", "answered", "key"] ds) s := by
  obtain ⟨r, a, ks, rfl, hr, hl, q⟩ := h
  refine ⟨_, rfl, _, rfl, _, rfl, _, rfl, _, sliceR hr, _, _, isW_lst, le_line (by rw [List.length_map, List.length_drop]; omega), ?_⟩
  refine lcD_pure (fun d => match d with | .str k => one k | _ => false) (fun d => d) trivial (fun d hd k1 k0 h1 h0 => ?_) ?_
  · obtain ⟨k, hk, rfl⟩ := List.mem_map.mp hd
    refine ⟨_, rfl, _, rfl, _, eq_ii, _, rfl, ifB (fun e => ⟨_, rfl, h1 e⟩) fun e => h0 e⟩
  have e : (((ks.drop a).map D.str).filter (fun d => match d with | .str k => one k | _ => false)).map (fun d => d) = ((ks.drop a).filter one).map D.str := by
    rw [List.filter_map, List.map_id']; rfl
  rw [e]
  refine ⟨_, _, rfl, strsOf_map _, ?_, q⟩
  rw [ones_sum ones_of]
  have := List.length_filter_le one (ks.drop a)
  rw [List.length_drop] at this
  show ((ks.drop a).filter one).length + _ * 0 ≤ _
  omega
theorem pf__law_shown (h : sp__law_shown ds s Q E) : b__law_shown (endsOf Q) (envD ["bag", "pressed", "most", "state", "segments", "at", "tail"] ds) s := by
  obtain ⟨c, p, v, most, rfl, S, hc, hm, q⟩ := h
  have hL := sizeLine_eq
  refine ⟨_, rfl, Nat.zero_le _, Nat.zero_le _, Dl.ll, c, p, [], .lst [], rfl, (fun _ h => nomatch h), by decide, S, by omega, fun segs i t s1 ok S1 K1 => ?_⟩
  refine ⟨fun f env s' => ∃ (segs : Pairs) (i : Int) (t : Str) (e4 e5 e6 : Option D), env = [some (.ref p), some v, some (inD most), some (stD segs i t), e4, e5, e6] ∧ StOk segs i t ∧ segs.length + t.length ≤ f ∧ s' = s1, ⟨_, segs, i, t, none, none, none, rfl, ok, Nat.le_refl _, rfl⟩, ?_⟩
  rintro f env s2 ⟨segs, i, t, e4, e5, e6, rfl, ok, hf, rfl⟩
  have hrl := reads_len segs t
  have hB := ok.b
  refine ⟨_, rfl, segs, i, t, rfl, ok, _, rfl, _, rfl, _, rfl, _, rfl, ifD (fun hlt => ?_) fun hge => ?_⟩
  · have hlt : ((most : Nat) : Int) < (((readsT segs t).length : Nat) : Int) := hlt
    refine ⟨fun e' s'' => ∃ f', f' < f ∧ ∃ (segs : Pairs) (i : Int) (t : Str) (e4 e5 e6 : Option D), e' = [some (.ref p), some v, some (inD most), some (stD segs i t), e4, e5, e6] ∧ StOk segs i t ∧ segs.length + t.length ≤ f' ∧ s'' = s2, fun e' s'' h => h, ?_⟩
    have rest_ : ∀ (EE : EndsD) (sg' : Pairs) (i' : Int), EE.nx = (fun e' s'' => ∃ f', f' < f ∧ ∃ (segs : Pairs) (i : Int) (t : Str) (e4 e5 e6 : Option D), e' = [some (.ref p), some v, some (inD most), some (stD segs i t), e4, e5, e6] ∧ StOk segs i t ∧ segs.length + t.length ≤ f' ∧ s'' = s2) → (∀ t' : Str, sgnIn az t' = true → t'.length ≤ t.length → StOk sg' i' t') → sg'.length + t.length ≤ f → (t = "" → sg'.length < f) → (dAsg (dTup (dCons (dVar 4) (dCons (dVar 5) (dCons (dIf (dTest (dBin (oF gtBF) (dCB lenF (dCons (dVar 6) dNil)) (dBin oDiv (dVar 2) (dC (.int 2))))) (dSl (dVar 6) dNoP (dP (dBin oDiv (dVar 2) (dC (.int 2))))) (dC (.str ""))) dNil)))) (gN 3)) EE [some (.ref p), some v, some (inD most), some (stD segs i t), some (.tup (sg'.map segD)), some (.int i'), some (.str t)] s2 := by
      intro EE sg' i' hE okS hf1 hf2
      have fin : ∀ t' : Str, sgnIn az t' = true → t'.length ≤ t.length → (t ≠ "" → t'.length < t.length) → EE.nx [some (.ref p), some v, some (inD most), some (stD sg' i' t'), some (.tup (sg'.map segD)), some (.int i'), some (.str t)] s2 := fun t' h1 h2 h3 => by
        rw [hE]
        refine ⟨sg'.length + t'.length, ?_, sg', i', t', _, _, _, rfl, okS t' h1 h2, Nat.le_refl _, rfl⟩
        by_cases e : t = ""
        · have := hf2 e
          have e0 : t.length = 0 := by rw [e]; rfl
          omega
        · have := h3 e
          omega
      have t0 : t ≠ "" → 0 < t.length := fun e => by
        rcases Nat.eq_zero_or_pos t.length with h | h
        · exact absurd (len0_nil h) e
        · exact h
      refine ⟨_, rfl, _, rfl, _, rfl, _, rfl, _, rfl, _, _, rfl, rfl, divOk_of (by decide) (by decide), _, rfl, _, rfl, ifD (fun h => ?_) fun h => ?_⟩
      · have h : ((most : Nat) : Int) / 2 < ((t.length : Nat) : Int) := h
        refine ⟨_, rfl, _, rfl, _, _, rfl, rfl, divOk_of (by decide) (by decide), _, rfl, _, rfl, Dl.ll, ?_⟩
        have h0 : (0 : Int) ≤ ((most : Nat) : Int) / 2 := by omega
        refine fin ⟨(Dl.cutD t.cps.toList none (some (((most : Nat) : Int) / 2))).toArray⟩ (az_sub ok.ts fun x hx => cut_mem hx) cut_lenS fun _ => ?_
        rw [cutD_to h0]
        show (List.take _ _).toArray.size < _
        rw [List.size_toArray, List.length_take]
        omega
      · exact ⟨Dl.ll, fin "" (by decide +kernel) (Nat.zero_le _) fun e => t0 e⟩
    refine ⟨_, rfl, _, rfl, rfl, _, rfl, _, eq_ss, _, rfl, ?_⟩
    by_cases ht : t = ""
    · subst ht
      have hs1 : 1 ≤ segs.length := by
        cases segs with
        | nil =>
          have e0 : sumL ([] : Pairs) = 0 := rfl
          have e1 : (("" : Str).length : Int) = 0 := rfl
          omega
        | cons p l => exact Nat.succ_le_succ (Nat.zero_le _)
      have hsl : sliceF s2 (.tup (segs.map segD)) none (some (-1)) = some (.tup ((segs.take (segs.length - 1)).map segD)) := by
        show some (D.tup (Dl.cutD (segs.map segD) none (some (-((1 : Nat) : Int))))) = _
        rw [Tt.cutD_toNeg (Nat.le_refl _) (by rw [List.length_map]; exact hs1), List.length_map, List.map_take]
      refine ifT ⟨_, rfl, _, rfl, _, rfl, _, hsl, _, _, rfl, ?_⟩
      have hlt1 : (segs.take (segs.length - 1)).length = segs.length - 1 := by rw [List.length_take]; omega
      have e1 : ("" : Str).length = 0 := rfl
      refine rest_ _ (segs.take (segs.length - 1)) 0 rfl (fun t' h1 h2 => StOk.less ok (.inl rfl) h1 h2) ?_ fun _ => ?_
      · omega
      · omega
    · rw [show (t == "") = false from beq_eq_false_iff_ne.mpr ht]
      refine ifF ?_
      dsimp only [dNext]
      refine rest_ _ segs i rfl (fun t' h1 h2 => ?_) hf fun e => absurd e ht
      have := StOk.less ok (n := segs.length) (.inr ⟨rfl, Nat.le_refl _⟩) h1 h2
      rw [List.take_length] at this
      exact this
  · have hge : ¬ ((most : Nat) : Int) < (((readsT segs t).length : Nat) : Int) := hge
    exact ⟨_, rfl, q segs i t _ ok (by omega) S1 K1⟩
theorem pf_Page_hear (h : sp_Page_hear ds s Q E) : b_Page_hear (fun y fs _ s' => E y fs s') (endsOf Q) (envD ["self", "letter", "word", "commit", "segment", "writing"] ds) s := by
  obtain ⟨l, k, f, P, nu, ks, sg, i, t, rfl, G, ok, st, hn, hk, q0, q1⟩ := h
  have hL := sizeLine_eq
  have hst := st_sz st
  have hB : 1000000000000 ≤ big := by decide
  have hnu : szB NN (inD nu) = true := sz_int.mpr (by omega)
  have hks : szB NN (inD ks) = true := sz_int.mpr (by omega)
  have c1 : ∀ n : Nat, isCnt (inD n) = true := fun n => by
    show decide ((0 : Int) ≤ ((n : Nat) : Int)) = true
    exact decide_eq_true (by omega)
  have hx : szB NN (.tup [.str "show", inD nu, inD ks, stD sg i t]) = true := sz_tup.mpr ⟨Nat.le_of_ble_eq_true rfl, fun x hx => by
    simp only [List.mem_cons, List.not_mem_nil, or_false] at hx
    rcases hx with rfl | rfl | rfl | rfl
    · exact by decide +kernel
    · exact hnu
    · exact hks
    · exact hst⟩
  have hl : letF (.tup [.str "show", inD nu, inD ks, stD sg i t]) "show" 3 = true := rfl
  refine ⟨_, rfl, _, _, _, rfl, hx, by decide, _, rfl, ?_⟩
  rw [hl]
  refine ifT ⟨_, rfl, _, rfl, _, rfl, hnu, _, rfl, ?_⟩
  rw [c1]
  refine ifT ⟨_, rfl, _, rfl, _, rfl, hks, _, rfl, ?_⟩
  rw [c1]
  refine ifT ⟨_, rfl, _, rfl, _, rfl, hst, _, rfl, ?_⟩
  rw [st.st]
  refine ifT ⟨_, rfl, l, _, rfl, G.o, rfl, _, rfl, _, rfl, _, rfl, _, rfl, _, rfl, _, rfl, ?_⟩
  exact ⟨l, k, f, P, nu, ks, sg, i, t, rfl, G, ok, st, fun h => ⟨Nat.zero_le _, q0 h⟩, fun h s' a1 a2 a3 => ⟨Nat.zero_le _, q1 h s' a1 a2 a3⟩⟩
end
end Qk47
set_option Elab.async false
set_option linter.all false
set_option autoImplicit false
set_option maxRecDepth 100000
set_option maxHeartbeats 600000
namespace Qk47
open PySem PySem.Spec PyProof.Rows L2 Dl Bk Su Pg
open Fb (Kp Kp.app Kp.set Kp.trans Kp.refl Kp.get Ps Ps.up Ps.lt Ps.app Ps.set)
open Fi (keyF sp_is_key namedL)
open Tt (segD stD stateF StOk Stb ok_of sp_is_state neF_st eq_self_tup eq_self_lst eq_self_int eq_self_str)
open Fa (ifD ifB ifT ifF fapp strL)
open Sx (Cell sgD ceD Pairs psD inD cellsW cellsF putC allSegs whereC opD SgOk len_rf)
theorem st_nil : StOk [] 0 "" := ⟨(fun _ h => nomatch h), Int.le_refl _, by decide, by decide +kernel, by decide⟩
theorem Ps_at {c : Int} {p : Nat} {s s' : Sto} (h : Ps c p s) (e : s'[p]? = s[p]?) : Ps c p s' := by
  obtain ⟨a, b, n, h1, r⟩ := h
  exact ⟨a, b, n, e.trans h1, r⟩
theorem Wp.ab {c : Int} {p l : Nat} {P : Pm} {s s' : Sto} (W : Wp c p l P s) (b : ∀ j, j < s.length → s'[j]? = s[j]?) : Wp c p l P s' :=
  ⟨Ps_at W.S (b _ W.S.lt), W.G.ab b, W.ok, (b _ (List.getElem?_eq_some_iff.mp W.hr).1).trans W.hr, W.pl, W.z, W.be, W.no⟩
theorem Wp.kp {c c' : Int} {p l : Nat} {P : Pm} {s s' : Sto} (W : Wp c p l P s) (K : Kp p s s') (S : Ps c' p s') : Wp c' p l P s' := by
  have hp := W.pl
  refine ⟨S, W.G.at_ fun j hj => ?_, W.ok, K.get W.hr (by omega), W.pl, W.z, W.be, W.no⟩
  have hlt : j < s.length := by
    rcases hj with rfl | rfl | rfl | hj
    · exact (List.getElem?_eq_some_iff.mp W.G.o).1
    · exact (List.getElem?_eq_some_iff.mp W.G.t).1
    · exact (List.getElem?_eq_some_iff.mp W.G.pk).1
    · exact W.G.sh.lt j hj
  refine K.at_ j hlt fun e => ?_
  rcases hj with rfl | rfl | rfl | hj
  · omega
  · omega
  · omega
  · have hj : j = l + 2 ∨ j = l + 2 + 2 ∨ j = l + 2 + 4 ∨ j = l + 3 ∨ j = l + 5 ∨ j = l + 7 := hj
    omega
theorem str_id (z : Str) : strL [] ++ z ++ strL [] = z := by
  cases z with
  | mk a =>
    show Str.mk (#[] ++ a ++ #[]) = _
    rw [Array.append_empty, Array.empty_append]
theorem ne_same {s : Sto} {xs : List D} (h : ∀ x ∈ xs, eqN 59 x x = some true) : neF s (.tup xs) (.tup xs) = some (.bl false) := by
  show (eqN 60 (.tup xs) (.tup xs)).map _ = _
  rw [eq_self_tup (n := 59) h]; rfl
theorem eq_same {s : Sto} {xs : List D} (h : ∀ x ∈ xs, eqN 59 x x = some true) : eqF s (.lst xs) (.lst xs) = some (.bl true) := by
  show (eqN 60 (.lst xs) (.lst xs)).map _ = _
  rw [eq_self_lst (n := 59) h]; rfl
theorem nil_iff {ks : List Str} : (ks.map D.str = []) ↔ ks = [] := List.map_eq_nil_iff
theorem PmOk.key {P : Pm} {z : Str} (ok : PmOk P) (hz : keyF (.str z) = true) (hl : P.pr.length < 1000) (h0 : P.be = false → one z = true ∧ P.pr = [] ∧ P.an = 0) (h1 : P.be = true → one z = true → (readsT P.sg P.tl ++ lettersT (P.pr.drop P.an)).length < 40) : PmOk (P.key z) := by
  have hk : ∀ k ∈ P.pr ++ [z], k.length ≤ 8 := fun k hk => by
    rcases List.mem_append.mp hk with h | h
    · exact ok.ks k h
    · rw [List.mem_singleton.mp h]; exact (key_len hz).2
  have hl2 : (P.pr ++ [z]).length = P.pr.length + 1 := by rw [List.length_append]; rfl
  unfold Pm.key
  cases hb : P.be with
  | true =>
    rw [if_pos rfl]
    refine ⟨ok.st, ok.bd, ok.ok, ok.os, ?_, ?_, hk, ok.ca, ?_, ok.nu⟩
    · show P.an ≤ (P.pr ++ [z]).length
      have := ok.an
      omega
    · show (P.pr ++ [z]).length ≤ 1000
      omega
    · show (readsT P.sg P.tl ++ lettersT ((P.pr ++ [z]).drop P.an)).length ≤ 40
      have hf := ok.full
      rw [app_len] at hf ⊢
      rw [List.drop_append_of_le_length ok.an, letters_app]
      by_cases ho : one z = true
      · have := h1 hb ho
        rw [app_len] at this
        rw [if_pos ho]; omega
      · rw [if_neg ho]; omega
  | false =>
    rw [if_neg (by decide)]
    obtain ⟨ho, hp, ha⟩ := h0 hb
    refine ⟨st_nil, ok.bd, ok.ok, ok.os, ?_, ?_, hk, ok.ca, ?_, ok.nu⟩
    · show P.an ≤ (P.pr ++ [z]).length
      omega
    · show (P.pr ++ [z]).length ≤ 1000
      omega
    · show (readsT [] "" ++ lettersT ((P.pr ++ [z]).drop P.an)).length ≤ 40
      rw [app_len, ha, hp]
      have h2 := letters_le ([z])
      have h3 : (readsT [] "").length = 0 := rfl
      show (readsT [] "").length + (lettersT [z]).length ≤ 40
      have h4 : [z].length = 1 := rfl
      omega
section
variable (ds : List D) (s : Sto) (Q : D → Sto → Prop) (E : XD)
theorem pf__law_told_right (h : sp__law_told_right ds s Q E) : b__law_told_right (endsOf Q) (envD ["page", "pressed", "answered", "state", "text", "reading", "writing"] ds) s := by
  obtain ⟨c, p, l, P, rfl, W, q⟩ := h
  have hL := sizeLine_eq
  have ok := W.ok
  obtain ⟨l1, l2⟩ := seg_lens ok.st.b
  have h1 := join_le2 l2
  have h2 := ok.st.b.t
  have h3 := letters_le (P.pr.drop P.an)
  have h4 := ok.pl
  rw [List.length_drop] at h3
  obtain ⟨z1, z2, z3, z4, z5, z6, z7⟩ := W.z
  refine ⟨_, rfl, _, rfl, _, rfl, _, _, isW_tup, le_line (by rw [List.length_map]; have := ok.st.b.n; omega), ?_⟩
  refine lcD_pure (fun _ => true) (fun d => match d with | .tup [_, b] => b | d => d) trivial (fun d hd k1 k0 h1 h0 => ?_) ?_
  · obtain ⟨p, hp, rfl⟩ := List.mem_map.mp hd
    exact ⟨_, rfl, rfl, _, rfl, h1 rfl⟩
  rw [List.filter_eq_self.mpr (fun _ _ => rfl), show (P.sg.map segD).map (fun d => match d with | .tup [_, b] => b | d => d) = (P.sg.map (·.2)).map D.str by rw [List.map_map, List.map_map]; rfl]
  refine ⟨_, _, rfl, strsOf_map _, by omega, ?_⟩
  refine ⟨_, rfl, _, rfl, _, adds (by omega), ?_⟩
  refine ⟨_, rfl, _, rfl, _, rfl, l + 9, P.an, P.pr, rfl, W.hr, h4, _, adds (by rw [app_len]; omega), ?_⟩
  have G := W.G
  have comp : neF s (if P.be = true then .tup [inD P.nu, inD P.pr.length, inD P.an] else .non) (if P.be = true then .tup [.int 0, .int ((P.pr.map D.str).length : Nat), inD P.an] else .non) = some (.bl false) := by
    cases P.be with
    | true =>
      rw [if_pos rfl, if_pos rfl, z7, List.length_map]
      show neF s (.tup [.int 0, inD P.pr.length, inD P.an]) (.tup [.int 0, inD P.pr.length, inD P.an]) = _
      exact ne_same fun x hx => by
        simp only [List.mem_cons, List.not_mem_nil, or_false] at hx
        rcases hx with rfl | rfl | rfl <;> exact eq_self_int
    | false => rw [if_neg (by decide), if_neg (by decide)]; rfl
  have idx : ∃ i : Int, intF s [.bl (decide (P.pr.map D.str = []))] = some (.int i) ∧ idxF s (.lst [.tup [.int 0, .int ((P.pr.map D.str).length : Nat), inD P.an], .non]) (.int i) = some (if P.be = true then .tup [.int 0, .int ((P.pr.map D.str).length : Nat), inD P.an] else .non) := by
    cases hb : P.be with
    | true =>
      have e : decide (P.pr.map D.str = []) = false := decide_eq_false fun e => W.be hb (nil_iff.mp e)
      rw [e]
      exact ⟨0, rfl, by rw [if_pos rfl]; rfl⟩
    | false =>
      have e : decide (P.pr.map D.str = []) = true := decide_eq_true (nil_iff.mpr (W.no hb).1)
      rw [e]
      exact ⟨1, rfl, by rw [if_neg (by decide)]; rfl⟩
  obtain ⟨i, hi1, hi2⟩ := idx
  refine ⟨_, rfl, l, _, rfl, G.o, rfl, l, _, _, P, rfl, G, _, rfl, _, len_rf W.hr, _, rfl, Dl.ll, Dl.ll, _, rfl, Nat.zero_le _, _, eq_l0R W.hr, _, hi1, _, hi2, ?_⟩
  refine ⟨_, comp, _, rfl, ifF ?_⟩
  have ss : ∀ z : Str, neF s (.str z) (.str z) = some (.bl false) := fun z => by rw [ne_ss]; simp
  refine ⟨_, rfl, l, _, rfl, G.o, rfl, l, _, _, P, rfl, G, _, rfl, _, neF_st, _, rfl, ifF ?_⟩
  refine ⟨_, rfl, l, _, rfl, G.o, rfl, l, _, _, P, rfl, G, ok, _, rfl, _, ss _, _, rfl, ifF ?_⟩
  refine ⟨_, rfl, l, _, rfl, G.o, rfl, l, _, _, P, rfl, G, ok, _, rfl, ?_⟩
  rw [z1, z5, z6]
  refine ⟨.bl false, ?_, _, rfl, ifF ?_⟩
  · show neF s (.str (strL [] ++ (writesT P.sg P.tl ++ lettersT (P.pr.drop P.an)) ++ strL [])) (.str (writesT P.sg P.tl ++ lettersT (P.pr.drop P.an))) = _
    rw [str_id]; exact ss _
  refine ⟨_, rfl, l, _, rfl, G.o, rfl, l, _, _, P, rfl, G, _, rfl, l, _, rfl, G.o, rfl, l, _, _, P, rfl, G, _, rfl, l, _, rfl, G.o, rfl, l, _, _, P, rfl, G, _, rfl, l, _, rfl, G.o, rfl, l, _, _, P, rfl, G, ok, fun s2 A => ?_⟩
  have W2 := W.ab A.2
  have G2 := W2.G
  refine ⟨_, rfl, l, _, rfl, G2.o, rfl, l, _, _, P, rfl, G2, Dl.ll, Nat.zero_le _, Nat.zero_le _, Dl.ll, Dl.ll, .bl true, ?_, q s2 W2⟩
  rw [z1, z3, z4, z5, z6]
  rfl
end
end Qk47
set_option Elab.async false
set_option linter.all false
set_option autoImplicit false
set_option maxRecDepth 100000
set_option maxHeartbeats 600000
namespace Qk47
open PySem PySem.Spec PyProof.Rows L2 Dl Bk Su Pg
open Fb (Kp Kp.app Kp.set Kp.trans Kp.refl Kp.get Ps Ps.up Ps.lt Ps.app Ps.set)
open Fi (keyF sp_is_key namedL)
open Tt (segD stD stateF StOk Stb ok_of sp_is_state neF_st eq_self_tup eq_self_lst eq_self_int eq_self_str)
open Fa (ifD ifB ifT ifF fapp strL)
open Sx (Cell sgD ceD Pairs psD inD cellsW cellsF putC allSegs whereC opD SgOk len_rf)
section
variable (ds : List D) (s : Sto) (Q : D → Sto → Prop) (E : XD)
theorem kr_due {Ed : EndsD} {R : SD} {l : Nat} {P : Pm} {z : Str} {d : D} {fl due : Bool} (hr : s[l + 9]? = some (some (.lst (P.pr.map D.str)))) (ok : PmOk P) (hd : (one z && (!decide (P.pr.map D.str = []) && decide ((39 : Int) < (((readsT P.sg P.tl ++ lettersT (P.pr.drop P.an)).length : Nat) : Int)))) = due)
    (q : ∀ e7, R Ed [some (.ref l), some (.ref (l + 9)), some (inD P.an), some (stD P.sg P.at_ P.tl), some (.str z), some d, some (.bl fl), e7, some (.bl due)] s) :
    (dSeq (dAsg (dCB lenF (dCons (dBin (oF addF) (dCall sp__law_reading [] (dCons (dVar 3) dNil)) (dCall sp__law_since [] (dCons (dVar 1) (dCons (dVar 2) dNil)))) dNil)) (gN 7))
  (dSeq (dAsg (dAndV (dBin (oF eqF) (dCB lenF (dCons (dVar 4) dNil)) (dC (.int 1))) (dAndV (dBin (oF neF) (dVar 1) (dLst dNil)) (dBin (oF gtBF) (dVar 7) (dC (.int 39))))) (gN 8)) R)) Ed [some (.ref l), some (.ref (l + 9)), some (inD P.an), some (stD P.sg P.at_ P.tl), some (.str z), some d, some (.bl fl), none, none] s := by
  have hL := sizeLine_eq
  have hf := ok.full
  rw [app_len] at hf
  refine ⟨_, rfl, P.sg, P.at_, P.tl, rfl, ok.st, _, rfl, _, rfl, l + 9, P.an, P.pr, rfl, hr, ok.pl, _, adds (by omega), _, rfl, ?_⟩
  refine ⟨_, rfl, _, rfl, _, eq_ii, _, rfl, ?_⟩
  cases ho : one z with
  | false =>
    rw [ho, Bool.false_and] at hd
    subst hd
    rw [show (((z.length : Nat) : Int) == 1) = false from ho]
    exact ifF (q _)
  | true =>
    rw [ho, Bool.true_and] at hd
    rw [show (((z.length : Nat) : Int) == 1) = true from ho]
    refine ifT ⟨_, rfl, Nat.zero_le _, _, ne_l0R hr, _, rfl, ?_⟩
    cases hp : decide (P.pr.map D.str = []) with
    | true =>
      rw [hp] at hd
      have hd : false = due := hd
      subst hd
      exact ifF (q _)
    | false =>
      rw [hp] at hd
      have hd : decide ((39 : Int) < (((readsT P.sg P.tl ++ lettersT (P.pr.drop P.an)).length : Nat) : Int)) = due := hd
      subst hd
      exact ifT ⟨_, rfl, _, rfl, q _⟩
theorem pf__law_key_right (h : sp__law_key_right ds s Q E) : b__law_key_right (endsOf Q) (envD ["page", "pressed", "answered", "state", "key", "told", "full", "size", "due"] ds) s := by
  obtain ⟨c, p, l, P, z, rfl, W, hz, hpl, q⟩ := h
  have hL := sizeLine_eq
  obtain ⟨z1, z8⟩ := key_len hz
  have hB : 1000 ≤ NN := by decide
  have hsz : szB NN (.str z) = true := sz_str.mpr (by omega)
  have ok := W.ok
  have hr := W.hr
  have same : Q (.bl true) s := q P s W ⟨rfl, rfl, rfl, rfl, Nat.le_succ _⟩
  refine ⟨_, rfl, l, _, rfl, W.G.o, rfl, _, rfl, l, l + 8, _, P, .str z, rfl, W.G, ok, hsz, (fun e => by rw [hz] at e; cases e), fun z' e1 _ => ?_⟩
  cases e1
  refine ⟨fun hb ho => ?_, fun hb ho h40 => ⟨true, rfl, fun _ => ?_, fun h => nomatch h⟩, fun h1 h2 s' G' l' k' => ?_⟩
  · have hpr := (W.no hb).1
    refine kr_due (due := false) s hr ok (by rw [ho]; rfl) fun e7 => ?_
    refine ⟨_, rfl, _, rfl, ifF ⟨_, rfl, _, rfl, ifF ?_⟩⟩
    have er : eqF s (.ref (l + 9)) (.lst []) = some (.bl true) := by rw [eq_l0R hr, hpr]; rfl
    refine ⟨_, rfl, Nat.zero_le _, _, er, _, rfl, ifT ⟨_, rfl, _, rfl, _, rfl, _, rfl, ifD (fun h => ?_) fun h => ?_⟩⟩
    · exact ⟨_, rfl, Nat.zero_le _, .bl true, rfl, same⟩
    · have h : ¬ (1 : Int) < ((z.length : Nat) : Int) := h
      have := one_no ho
      omega
  · have hp : decide (P.pr.map D.str = []) = false := decide_eq_false fun e => W.be hb (nil_iff.mp e)
    refine kr_due (due := true) s hr ok (by rw [ho, hp, decide_eq_true (by omega)]; rfl) fun e7 => ?_
    exact ⟨_, rfl, _, rfl, ifT ⟨_, rfl, _, rfl, ifT ⟨_, rfl, same⟩⟩⟩
  · have hr' : s'[l + 9]? = some (some (.lst (P.pr.map D.str))) := (k' _ (by omega) (by omega)).trans hr
    have hbe : P.pr ≠ [] → P.be = true := fun hn => by
      cases hb : P.be with
      | true => rfl
      | false => exact absurd (W.no hb).1 hn
    have hdue : (one z && (!decide (P.pr.map D.str = []) && decide ((39 : Int) < (((readsT P.sg P.tl ++ lettersT (P.pr.drop P.an)).length : Nat) : Int)))) = false := by
      cases ho : one z with
      | false => rfl
      | true =>
        by_cases hp : P.pr = []
        · rw [hp]; rfl
        · have := h2 (hbe hp) ho
          rw [decide_eq_false (p := (39 : Int) < _) (by omega)]
          simp
    refine kr_due (due := false) s' hr' ok hdue fun e7 => ?_
    refine ⟨_, rfl, _, rfl, ifF ⟨_, rfl, _, rfl, ifF ?_⟩⟩
    have kpr : (P.key z).pr = P.pr ++ [z] := by unfold Pm.key; split <;> rfl
    have okk : PmOk (P.key z) := PmOk.key ok hz hpl (fun hb => ⟨h1 hb, (W.no hb).1, (W.no hb).2.2.2.2⟩) h2
    have hlt : l + 9 < s'.length := (List.getElem?_eq_some_iff.mp hr').1
    have fin : (dSeq (dDrop (dMt fAppend (dVar 1) (dCons (dVar 4) dNil)))
  (dRet (dBin (oF eqF) (dVar 5) (dLst (dCons (dTup (dCons (dC (.str "key")) (dCons (dC (.int 0)) (dCons (dCB lenF (dCons (dVar 1) dNil)) (dCons (dVar 4) dNil))))) dNil))))) (endsOf Q) [some (.ref l), some (.ref (l + 9)), some (inD P.an), some (stD P.sg P.at_ P.tl), some (.str z), some (.lst [.tup [.str "key", inD P.nu, inD (P.pr.length + 1), .str z]]), some (.bl false), e7, some (.bl false)] s' := by
      refine ⟨_, rfl, _, _, rfl, hr', _, rfl, _, _, _, hr', fapp (by rw [List.length_map]; omega), ?_⟩
      have e1 : P.pr.map D.str ++ [D.str z] = (P.key z).pr.map D.str := by rw [kpr, List.map_append]; rfl
      rw [e1]
      have hp1 := g_set (s := s') (o := some (.lst ((P.key z).pr.map D.str))) hlt
      refine ⟨_, rfl, _, rfl, _, len_rf hp1, _, rfl, Dl.ll, Dl.ll, .bl true, ?_, ?_⟩
      · rw [List.length_map, kpr, List.length_append, W.z.2.2.2.2.2.2]
        show eqF _ (.lst [.tup [.str "key", .int 0, inD (P.pr.length + 1), .str z]]) (.lst [.tup [.str "key", .int 0, inD (P.pr.length + 1), .str z]]) = _
        exact eq_same fun x hx => by
          rw [List.mem_singleton.mp hx]
          refine eq_self_tup fun y hy => ?_
          simp only [List.mem_cons, List.not_mem_nil, or_false] at hy
          rcases hy with rfl | rfl | rfl | rfl
          · exact eq_self_str
          · exact eq_self_int
          · exact eq_self_int
          · exact eq_self_str
      · have hpl' := W.pl
        refine q (P.key z) _ ⟨Ps_at W.S ?_, G'.at_ fun j hj => List.getElem?_set_ne fun e => ?_, okk, hp1, W.pl, ?_, fun _ => ?_, fun h => ?_⟩ ?_
        · rw [List.getElem?_set_ne (by omega)]
          exact k' _ (by omega) (by omega)
        · rcases hj with rfl | rfl | rfl | hj
          · omega
          · omega
          · omega
          · have hj : j = l + 2 ∨ j = l + 2 + 2 ∨ j = l + 2 + 4 ∨ j = l + 3 ∨ j = l + 5 ∨ j = l + 7 := hj
            omega
        · unfold Pm.key; split <;> exact W.z
        · rw [kpr]; simp
        · have : (P.key z).be = true := by
            unfold Pm.key
            split
            · assumption
            · rfl
          rw [this] at h; cases h
        · cases hb : P.be with
          | true => unfold Pm.key; rw [if_pos hb]; exact ⟨rfl, rfl, rfl, rfl, by show (P.pr ++ [z]).length ≤ _; rw [List.length_append]; exact Nat.le_refl _⟩
          | false =>
            obtain ⟨n1, n2, n3, n4, n5⟩ := W.no hb
            unfold Pm.key; rw [if_neg (by rw [hb]; decide)]; exact ⟨rfl, n2.symm, n3.symm, n4.symm, by show (P.pr ++ [z]).length ≤ _; rw [List.length_append]; exact Nat.le_refl _⟩
    refine ⟨_, rfl, Nat.zero_le _, _, eq_l0R hr', _, rfl, ?_⟩
    by_cases hp : P.pr = []
    · rw [decide_eq_true (nil_iff.mpr hp)]
      refine ifT ⟨_, rfl, _, rfl, _, rfl, _, rfl, ifD (fun h => ?_) fun h => ?_⟩
      · have h : (1 : Int) < ((z.length : Nat) : Int) := h
        have hb : P.be = false := by
          cases hb : P.be with
          | false => rfl
          | true => exact absurd hp (W.be hb)
        have := one_len (h1 hb)
        omega
      · exact fin
    · rw [decide_eq_false fun e => hp (nil_iff.mp e)]
      exact ifF fin
end
end Qk47
set_option Elab.async false
set_option linter.all false
set_option autoImplicit false
set_option maxRecDepth 100000
set_option maxHeartbeats 600000
namespace Qk47
open PySem PySem.Spec PyProof.Rows L2 Dl Bk Su Pg
open Fb (Kp Kp.app Kp.set Kp.trans Kp.refl Kp.get Ps Ps.up Ps.lt Ps.app Ps.set sp__law_take)
open Ba (sp__law_bag sp__law_word sp__law_state)
open Fi (keyF sp_is_key namedL)
open Tt (segD stD stateF StOk Stb ok_of sp_is_state neF_st eq_self_tup eq_self_lst eq_self_int eq_self_str)
open Fa (ifD ifB ifT ifF fapp strL)
open Sx (Cell sgD ceD Pairs psD inD cellsW cellsF putC allSegs whereC opD SgOk len_rf)
theorem Wp.up {c c' : Int} {p l : Nat} {P : Pm} {s : Sto} (W : Wp c p l P s) (h : c ≤ c') : Wp c' p l P s := ⟨W.S.up h, W.G, W.ok, W.hr, W.pl, W.z, W.be, W.no⟩
theorem letters_drop {ks : List Str} {a b : Nat} (h : a ≤ b) : (lettersT (ks.drop b)).length ≤ (lettersT (ks.drop a)).length := by
  rw [letters_len, letters_len, show b = a + (b - a) by omega, ← List.drop_drop]
  exact ((List.drop_sublist _ _).filter _).length_le
theorem max_sub {s : Sto} {n : Nat} : max2F s [.int 0, .int (40 - (n : Int))] = some (inD (40 - n)) := by
  show some (D.int (if (40 - (n : Int)) > 0 then 40 - (n : Int) else 0)) = some (.int ((40 - n : Nat) : Int))
  congr 2
  split <;> omega
section
variable (ds : List D) (s : Sto) (Q : D → Sto → Prop) (E : XD)
theorem told_go {Ed : EndsD} {c : Int} {p l : Nat} {P : Pm} {e0 e1 e7 e8 e9 e10 e11 : Option D} (W : Wp c p l P s) (q : ∀ s', Wp c p l P s' → Ed.nx [e0, e1, some (.ref p), some (.ref l), some (.ref (l + 9)), some (inD P.an), some (stD P.sg P.at_ P.tl), e7, e8, e9, e10, e11] s') :
    (dIfS (dNot (dTest (dCall sp__law_told_right [] (dCons (dVar 3) (dCons (dVar 4) (dCons (dVar 5) (dCons (dVar 6) dNil))))))) (dRet (dC (.bl false))) dNext) Ed [e0, e1, some (.ref p), some (.ref l), some (.ref (l + 9)), some (inD P.an), some (stD P.sg P.at_ P.tl), e7, e8, e9, e10, e11] s :=
  ⟨_, rfl, _, rfl, _, rfl, _, rfl, c, p, l, P, rfl, W, fun s' W' => ⟨_, rfl, ifF (q s' W')⟩⟩
theorem show_go {Ed : EndsD} {c : Int} {p l : Nat} {P : Pm} {e0 e1 e7 e8 e9 e10 e11 : Option D} (W : Wp c p l P s) (hc : c ≤ 900000) (q : ∀ P' s' e10 e11, Wp (c + 1210) p l P' s' → P'.pr = P.pr → Ed.nx [e0, e1, some (.ref p), some (.ref l), some (.ref (l + 9)), some (inD P'.an), some (stD P'.sg P'.at_ P'.tl), e7, e8, e9, e10, e11] s') :
    (dSeq (dIfS (dAnd (dTest (dBin (oF ltF) (dVar 5) (dCB lenF (dCons (dVar 4) dNil)))) (dTest (dBin (oF eqF) (dCall sp__law_take [] (dCons (dVar 2) (dCons (dC (.int 5)) dNil))) (dC (.int 0))))) (dSeq (dAsg (dBin (oF addF) (dBin (oF addF) (dVar 5) (dC (.int 1))) (dCall sp__law_take [] (dCons (dVar 2) (dCons (dBin (oF subF) (dCB lenF (dCons (dVar 4) dNil)) (dVar 5)) dNil)))) (gN 10))
  (dSeq (dAsg (dCall sp__law_shown [] (dCons (dVar 2) (dCons (dVar 4) (dCons (dCB max2F (dCons (dC (.int 0)) (dCons (dBin (oF subF) (dC (.int 40)) (dCB lenF (dCons (dCall sp__law_since [] (dCons (dVar 4) (dCons (dVar 10) dNil))) dNil))) dNil))) dNil)))) (gN 11))
  (dSeq (dIfS (dTest (dBin (oF neF) (dMeth noW "Page" "hear" sp_Page_hear [] (dVar 3) (dCons (dTup (dCons (dC (.str "show")) (dCons (dC (.int 0)) (dCons (dVar 10) (dCons (dVar 11) dNil))))) dNil)) (dLst dNil))) (dRet (dC (.bl false))) dNext)
  (dPar2 5 6 (dCons (dVar 10) (dCons (dVar 11) dNil)))))) dNext)
  (dIfS (dNot (dTest (dCall sp__law_told_right [] (dCons (dVar 3) (dCons (dVar 4) (dCons (dVar 5) (dCons (dVar 6) dNil))))))) (dRet (dC (.bl false))) dNext)) Ed [e0, e1, some (.ref p), some (.ref l), some (.ref (l + 9)), some (inD P.an), some (stD P.sg P.at_ P.tl), e7, e8, e9, e10, e11] s := by
  have hL := sizeLine_eq
  have ok := W.ok
  have hpl := ok.pl
  refine ⟨_, rfl, _, rfl, _, len_rf W.hr, _, rfl, _, rfl, ifD (fun h => ?_) fun h => ?_⟩
  case refine_2 =>
    dsimp only [dNext]
    exact told_go s W fun s' W' => q P s' e10 e11 (W'.up (by omega)) rfl
  have h : ((P.an : Nat) : Int) < (((P.pr.map D.str).length : Nat) : Int) := h
  rw [List.length_map] at h
  refine ⟨_, rfl, c, p, 5, rfl, W.S, by omega, by decide, by decide, fun i1 s1 a1 b1 S1 K1 l1 => ⟨_, eq_ii, _, rfl, ifB (fun _ => ?_) fun _ => ?_⟩⟩
  case refine_2 =>
    dsimp only [dNext]
    exact told_go s1 (W.kp K1 S1) fun s' W' => q P s' e10 e11 (W'.up (by omega)) rfl
  have W1 := W.kp K1 S1
  refine ⟨_, rfl, _, rfl, _, rfl, _, rfl, _, len_rf W1.hr, _, rfl, _, rfl, c + 1, p, _, rfl, S1, by omega, by rw [List.length_map]; omega, by rw [List.length_map]; omega, fun j s2 a2 b2 S2 K2 l2 => ⟨_, rfl, ?_⟩⟩
  rw [List.length_map] at b2
  have W2 := W1.kp K2 S2
  obtain ⟨ks, hks⟩ : ∃ ks : Nat, ((P.an : Nat) : Int) + 1 + j = (ks : Nat) := ⟨(((P.an : Nat) : Int) + 1 + j).toNat, by omega⟩
  show (dSeq _ _) _ [e0, e1, some (.ref p), some (.ref l), some (.ref (l + 9)), some (inD P.an), some (stD P.sg P.at_ P.tl), e7, e8, e9, some (.int (((P.an : Nat) : Int) + 1 + j)), e11] s2
  rw [hks]
  refine ⟨_, rfl, _, rfl, _, rfl, _, rfl, l + 9, ks, P.pr, rfl, W2.hr, hpl, _, rfl, _, rfl, _, max_sub, c + 1 + 1, p, _, _, rfl, S2, by omega, by omega, fun sg i t s3 st hl S3 K3 => ?_⟩
  have W3 := W2.kp K3 S3
  have G3 := W3.G
  have hbe : P.be = true := by
    cases hb : P.be with
    | true => rfl
    | false =>
      have e0 := (W.no hb).1
      rw [e0] at h
      have : (([] : List Str).length : Int) = 0 := rfl
      omega
  have hfull := ok.full
  rw [app_len] at hfull
  have hld := letters_drop (ks := P.pr) (a := P.an) (b := ks) (by omega)
  have hs : P.sees 0 ks sg t := ⟨hbe, W.z.2.2.2.2.2.2.symm, by omega, by omega, by rw [app_len]; omega⟩
  refine ⟨_, rfl, l, _, rfl, G3.o, rfl, _, rfl, _, rfl, Dl.ll, l, _, _, P, 0, ks, sg, i, t, rfl, G3, ok, st, by decide, by omega, (fun h => absurd hs h), fun _ s4 G4 l4 k4 => ⟨Nat.zero_le _, .bl false, rfl, _, rfl, ifF ?_⟩⟩
  dsimp only [dNext]
  refine ⟨_, rfl, _, rfl, _, _, rfl, ?_⟩
  have W4 : Wp (c + 1 + 1 + 1200) p l { P with an := ks, sg := sg, at_ := i, tl := t } s4 := by
    have hp := W.pl
    refine ⟨Ps_at S3 (k4 _ (by omega)), G4, ⟨st, ok.bd, ok.ok, ok.os, ?_, ok.pl, ok.ks, ok.ca, hs.2.2.2.2, ok.nu⟩, (k4 _ (by omega)).trans W3.hr, hp, W.z, W.be, fun hb => ?_⟩
    · show ks ≤ P.pr.length
      omega
    · have hb : P.be = false := hb
      rw [hbe] at hb; cases hb
  exact told_go s4 W4 fun s' W' => q { P with an := ks, sg := sg, at_ := i, tl := t } s' _ _ (W'.up (by omega)) rfl
theorem key_go {Ed : EndsD} {c : Int} {p l : Nat} {P : Pm} {z : Str} {e0 e1 e7 e8 e10 e11 : Option D} (W : Wp c p l P s) (hz : keyF (.str z) = true) (hl : P.pr.length < 1000) (hc : c ≤ 900000) (q : ∀ P' s' e9 e10 e11, Wp (c + 1210) p l P' s' → P'.pr.length ≤ P.pr.length + 1 → Ed.nx [e0, e1, some (.ref p), some (.ref l), some (.ref (l + 9)), some (inD P'.an), some (stD P'.sg P'.at_ P'.tl), e7, e8, e9, e10, e11] s') :
    (dSeq (dIfS (dNot (dTest (dCall sp__law_key_right [] (dCons (dVar 3) (dCons (dVar 4) (dCons (dVar 5) (dCons (dVar 6) (dCons (dVar 9) dNil)))))))) (dRet (dC (.bl false))) dNext)
  (dSeq (dIfS (dAnd (dTest (dBin (oF ltF) (dVar 5) (dCB lenF (dCons (dVar 4) dNil)))) (dTest (dBin (oF eqF) (dCall sp__law_take [] (dCons (dVar 2) (dCons (dC (.int 5)) dNil))) (dC (.int 0))))) (dSeq (dAsg (dBin (oF addF) (dBin (oF addF) (dVar 5) (dC (.int 1))) (dCall sp__law_take [] (dCons (dVar 2) (dCons (dBin (oF subF) (dCB lenF (dCons (dVar 4) dNil)) (dVar 5)) dNil)))) (gN 10))
  (dSeq (dAsg (dCall sp__law_shown [] (dCons (dVar 2) (dCons (dVar 4) (dCons (dCB max2F (dCons (dC (.int 0)) (dCons (dBin (oF subF) (dC (.int 40)) (dCB lenF (dCons (dCall sp__law_since [] (dCons (dVar 4) (dCons (dVar 10) dNil))) dNil))) dNil))) dNil)))) (gN 11))
  (dSeq (dIfS (dTest (dBin (oF neF) (dMeth noW "Page" "hear" sp_Page_hear [] (dVar 3) (dCons (dTup (dCons (dC (.str "show")) (dCons (dC (.int 0)) (dCons (dVar 10) (dCons (dVar 11) dNil))))) dNil)) (dLst dNil))) (dRet (dC (.bl false))) dNext)
  (dPar2 5 6 (dCons (dVar 10) (dCons (dVar 11) dNil)))))) dNext)
  (dIfS (dNot (dTest (dCall sp__law_told_right [] (dCons (dVar 3) (dCons (dVar 4) (dCons (dVar 5) (dCons (dVar 6) dNil))))))) (dRet (dC (.bl false))) dNext))) Ed [e0, e1, some (.ref p), some (.ref l), some (.ref (l + 9)), some (inD P.an), some (stD P.sg P.at_ P.tl), e7, e8, some (.str z), e10, e11] s := by
  refine ⟨_, rfl, _, rfl, _, rfl, _, rfl, _, rfl, c, p, l, P, z, rfl, W, hz, hl, fun P1 s1 W1 hh => ⟨_, rfl, ifF ?_⟩⟩
  obtain ⟨a1, a2, a3, a4, a5⟩ := hh
  dsimp only [dNext]
  rw [← a1, ← a2, ← a3, ← a4]
  exact show_go s1 W1 hc fun P' s' e10 e11 W' hp => q P' s' _ e10 e11 W' (by rw [hp]; exact a5)
theorem nil_ok : PmOk Pm.nil := ⟨st_nil, ⟨Nat.zero_le _, Nat.zero_le _, Nat.zero_le _, Nat.zero_le _, Nat.zero_le _⟩, Line.nil.ok, (fun c hc => nomatch hc), Nat.le_refl _, Nat.zero_le _, (fun k hk => nomatch hk), Nat.le_refl _, by decide, Nat.zero_le _⟩
theorem law_turns {Ed : EndsD} {p l : Nat} {e0 e1 f8 f9 f10 f11 : Option D} {b : Bool} (W : Wp 6101 p l Pm.nil s) (q : ∀ s' env, env.length = 12 → env[0]? = some e0 → Ed.nx env s') :
    (dFor (iR1 (dCons (dBin (oF idxF) (dLst (dCons (dC (.int 30)) (dCons (dC (.int 100)) dNil))) (dCB intF (dCons (dVar 7) dNil))) dNil)) (gN 8) (dSeq (dAsg (dIf (dTest (dVar 7)) (dCall sp__law_word [] (dCons (dVar 2) (dCons (dC (.int 1)) dNil))) (dCall sp__law_key [] (dCons (dVar 2) dNil))) (gN 9))
  (dSeq (dIfS (dNot (dTest (dCall sp__law_key_right [] (dCons (dVar 3) (dCons (dVar 4) (dCons (dVar 5) (dCons (dVar 6) (dCons (dVar 9) dNil)))))))) (dRet (dC (.bl false))) dNext)
  (dSeq (dIfS (dAnd (dTest (dBin (oF ltF) (dVar 5) (dCB lenF (dCons (dVar 4) dNil)))) (dTest (dBin (oF eqF) (dCall sp__law_take [] (dCons (dVar 2) (dCons (dC (.int 5)) dNil))) (dC (.int 0))))) (dSeq (dAsg (dBin (oF addF) (dBin (oF addF) (dVar 5) (dC (.int 1))) (dCall sp__law_take [] (dCons (dVar 2) (dCons (dBin (oF subF) (dCB lenF (dCons (dVar 4) dNil)) (dVar 5)) dNil)))) (gN 10))
  (dSeq (dAsg (dCall sp__law_shown [] (dCons (dVar 2) (dCons (dVar 4) (dCons (dCB max2F (dCons (dC (.int 0)) (dCons (dBin (oF subF) (dC (.int 40)) (dCB lenF (dCons (dCall sp__law_since [] (dCons (dVar 4) (dCons (dVar 10) dNil))) dNil))) dNil))) dNil)))) (gN 11))
  (dSeq (dIfS (dTest (dBin (oF neF) (dMeth noW "Page" "hear" sp_Page_hear [] (dVar 3) (dCons (dTup (dCons (dC (.str "show")) (dCons (dC (.int 0)) (dCons (dVar 10) (dCons (dVar 11) dNil))))) dNil)) (dLst dNil))) (dRet (dC (.bl false))) dNext)
  (dPar2 5 6 (dCons (dVar 10) (dCons (dVar 11) dNil)))))) dNext)
  (dIfS (dNot (dTest (dCall sp__law_told_right [] (dCons (dVar 3) (dCons (dVar 4) (dCons (dVar 5) (dCons (dVar 6) dNil))))))) (dRet (dC (.bl false))) dNext))))) Ed [e0, e1, some (.ref p), some (.ref l), some (.ref (l + 9)), some (inD 0), some (stD [] 0 ""), some (.bl b), f8, f9, f10, f11] s := by
  have hL := sizeLine_eq
  have hr : ∀ a n, (rangeD a n).length = n := fun a n => by simp [rangeD]
  have hn : ∃ n : Int, idxF s (.lst [.int 30, .int 100]) (.int (b2n b)) = some (.int n) ∧ 0 ≤ n ∧ n ≤ 100 := by
    cases b with
    | true => exact ⟨100, rfl, by decide, by decide⟩
    | false => exact ⟨30, rfl, by decide, by decide⟩
  obtain ⟨n, hn, n0, n1⟩ := hn
  refine ⟨Dl.ll, _, rfl, _, rfl, _, hn, _, rfl, by omega, by omega, ?_⟩
  refine forD_run (fun rest env s' => ∃ (P : Pm) (e8 e9 e10 e11 : Option D), env = [e0, e1, some (.ref p), some (.ref l), some (.ref (l + 9)), some (inD P.an), some (stD P.sg P.at_ P.tl), some (.bl b), e8, e9, e10, e11] ∧ rest.length ≤ 100 ∧ Wp (6101 + 1400 * (100 - rest.length : Nat)) p l P s' ∧ P.pr.length + rest.length ≤ 100) ?_ ?_ ⟨Pm.nil, f8, f9, f10, f11, rfl, by rw [hr]; omega, W.up (by omega), by rw [hr]; show 0 + _ ≤ 100; omega⟩
  · rintro d rest env s1 ⟨P, e8, e9, e10, e11, rfl, r1, W1, hpr⟩ N hN
    rw [List.length_cons] at r1 W1 hpr
    refine ⟨trivial, ⟨_, rfl, _, rfl, ?_⟩⟩
    cases b with
    | true =>
      refine ifT ⟨_, rfl, _, p, 1, rfl, by decide, by decide, W1.S, by omega, fun z s2 hz z1 z2 S2 K2 l2 => ?_⟩
      exact key_go s2 (W1.kp K2 S2) (key_one hz z1 z2) (by omega) (by omega) fun P' s' e9 e10 e11 W' hp => hN _ _ ⟨P', _, e9, e10, e11, rfl, by omega, W'.up (by omega), by omega⟩
    | false =>
      refine ifF ⟨_, rfl, _, p, rfl, W1.S, by omega, fun z s2 hz S2 K2 l2 => ?_⟩
      exact key_go s2 (W1.kp K2 S2) hz (by omega) (by omega) fun P' s' e9 e10 e11 W' hp => hN _ _ ⟨P', _, e9, e10, e11, rfl, by omega, W'.up (by omega), by omega⟩
  · rintro env s1 ⟨P, e8, e9, e10, e11, rfl, r1, W1, hpr⟩
    exact ⟨trivial, q _ _ rfl rfl⟩
theorem pf_law (h : spLaw ds s Q E) : b_law (endsOf Q) (envD ["script", "k", "bag", "page", "pressed", "answered", "state", "letters", "turn", "key", "keys", "some"] ds) s := by
  obtain ⟨ns, rfl, hn, hb, rfl, q⟩ := h
  (repeat (first | refine ⟨_, rfl, ?_⟩ | refine ⟨trivial, ?_⟩ | refine ⟨Dl.ll, ?_⟩ | refine ⟨_, _, isW_lst, Dl.ll, ?_⟩))
  have hm1 : (if (if ((ns.map D.int).length : Int) < 10 then ((ns.map D.int).length : Int) else 10) > 1 then (if ((ns.map D.int).length : Int) < 10 then ((ns.map D.int).length : Int) else 10) else (1 : Int)) ≤ 10 := by split <;> split at * <;> omega
  have hm0 : 0 ≤ (if (if ((ns.map D.int).length : Int) < 10 then ((ns.map D.int).length : Int) else 10) > 1 then (if ((ns.map D.int).length : Int) < 10 then ((ns.map D.int).length : Int) else 10) else (1 : Int)) := by split <;> omega
  refine ⟨by omega, by omega, ?_⟩
  have hr : ∀ a n, (rangeD a n).length = n := fun a n => by simp [rangeD]
  have hL := sizeLine_eq
  refine forD_run (fun rest env s => (∀ d ∈ rest, ∃ i : Int, d = .int i ∧ 0 ≤ i ∧ i ≤ 100) ∧ env.length = 12 ∧ env[0]? = some (some (.frl (ns.map .int)))) ?_ ?_ ?_
  · rintro d rest env s0 ⟨hd, he, h0⟩ N hN
    obtain ⟨k0, rfl, i0, i1⟩ := hd d List.mem_cons_self
    refine ⟨trivial, ?_⟩
    obtain ⟨a0, a1, a2, a3, a4, a5, a6, a7, a8, a9, a10, a11, rfl⟩ : ∃ a0 a1 a2 a3 a4 a5 a6 a7 a8 a9 a10 a11, env = [a0, a1, a2, a3, a4, a5, a6, a7, a8, a9, a10, a11] := by
      match env, he with
      | [a0, a1, a2, a3, a4, a5, a6, a7, a8, a9, a10, a11], _ => exact ⟨a0, a1, a2, a3, a4, a5, a6, a7, a8, a9, a10, a11, rfl⟩
    have h0 : some a0 = some (some (.frl (ns.map .int))) := h0
    injection h0 with h0
    subst h0
    refine ⟨_, rfl, _, rfl, ns, k0, rfl, i0, i1, fun s1 S1 l1 k1 => ?_⟩
    refine ⟨s1, rfl, rfl, fun s2 G2 l2 k2 => ⟨rfl, ?_⟩⟩
    refine ⟨Nat.zero_le _, Dl.ll, Dl.ll, _, _, _, rfl, ?_⟩
    show (dSeq _ _) _ [some (.frl (ns.map .int)), some (.int k0), some (.ref s0.length), some (.ref s1.length), some (.ref s2.length), some (.int 0), some (stD [] 0 ""), a7, a8, a9, a10, a11] (s2 ++ [some (.lst [])])
    have b3 : ∀ j, j < s2.length → (s2 ++ [some (MO.lst [])])[j]? = s2[j]? := fun j hj => List.getElem?_append_left hj
    have W3 : Wp 6100 s0.length s1.length Pm.nil (s2 ++ [some (.lst [])]) := by
      refine ⟨Ps_at S1 ?_, G2.ab b3, nil_ok, ?_, by omega, ⟨rfl, rfl, rfl, rfl, rfl, rfl, rfl⟩, (fun h => nomatch h), fun _ => ⟨rfl, rfl, rfl, rfl, rfl⟩⟩
      · rw [b3 _ (by omega), k2 _ (by omega)]
      · rw [← l2, List.getElem?_append_right (Nat.le_refl _), Nat.sub_self]; rfl
    rw [l2]
    generalize s2 ++ [some (MO.lst [])] = s3 at W3 ⊢
    refine ⟨_, rfl, 6100, s0.length, 4, rfl, W3.S, by decide, by decide, by decide, fun m s4 a b S4 K4 l4 => ⟨_, eq_ii, ?_⟩⟩
    exact law_turns s4 (W3.kp K4 S4) fun s' env he h0 => hN _ _ ⟨fun d h => hd d (List.mem_cons_of_mem _ h), he, h0⟩
  · rintro env s0 ⟨hd, he, h0⟩
    exact ⟨trivial, q _⟩
  · refine ⟨fun d h => ?_, rfl, rfl⟩
    simp only [rangeD, List.mem_map, List.mem_range] at h
    obtain ⟨x, hx, rfl⟩ := h
    exact ⟨_, rfl, by omega, by omega⟩
end
end Qk47
set_option Elab.async false
set_option linter.all false
set_option autoImplicit false
set_option maxRecDepth 100000
set_option maxHeartbeats 4000000
namespace Qk47
open PySem PySem.Spec PyProof.Rows L2 Dl
open Bk Su Pg
open Fb (Kp Ps sp__law_take mono__law_take len__law_take)
open Ba (sp__law_bag b__law_bag mono__law_bag len__law_bag pf__law_bag b__law_take pf__law_take sp__law_word b__law_word mono__law_word len__law_word pf__law_word sp__law_state b__law_state mono__law_state len__law_state pf__law_state)
open Tt hiding az AZ
open Fi (sp_is_key b_is_key mono_is_key len_is_key pf_is_key)
open Sx (sp_cells_of b_cells_of mono_cells_of len_cells_of pf_cells_of)
theorem kn__law_bag {P : Program} {w : World} {K : PySem.W.Frag} {mg : Str → Option Value} {base : Heap} (T : Tx K mg) (a : At K mg "_law_bag" s__law_bag ["script", "k"]) : Kn P w K mg base "_law_bag" 1 ["script", "k"] sp__law_bag :=
  Kn.mk a sc__law_bag mono__law_bag len__law_bag (d__law_bag T) pf__law_bag
theorem kn_Sheet___init__ {P : Program} {w : World} {K : PySem.W.Frag} {mg : Str → Option Value} {base : Heap} (T : Tx K mg) (a : AtI K mg "Sheet" "Sheet.__init__" s_Sheet___init__ ["self"]) : KnI P w K mg base "Sheet" 1 ["self"] sp_Sheet___init__ :=
  KnI.mk a sc_Sheet___init__ mono_Sheet___init__ len_Sheet___init__ (d_Sheet___init__ T) pf_Sheet___init__
theorem kn_Site___init__ {P : Program} {w : World} {K : PySem.W.Frag} {mg : Str → Option Value} {base : Heap} (T : Tx K mg) (a : AtI K mg "Site" "Site.__init__" s_Site___init__ ["self"]) (c_Sheet___init__ : KnI P w K mg base "Sheet" 1 ["self"] sp_Sheet___init__) : KnI P w K mg base "Site" 3 ["self"] sp_Site___init__ :=
  KnI.mk a sc_Site___init__ mono_Site___init__ len_Site___init__ (d_Site___init__ T c_Sheet___init__) pf_Site___init__
theorem kn_Page___init__ {P : Program} {w : World} {K : PySem.W.Frag} {mg : Str → Option Value} {base : Heap} (T : Tx K mg) (a : AtI K mg "Page" "Page.__init__" s_Page___init__ ["self"]) (c_Site___init__ : KnI P w K mg base "Site" 3 ["self"] sp_Site___init__) : KnI P w K mg base "Page" 5 ["self"] sp_Page___init__ :=
  KnI.mk a sc_Page___init__ mono_Page___init__ len_Page___init__ (d_Page___init__ T c_Site___init__) pf_Page___init__
theorem kn__law_take {P : Program} {w : World} {K : PySem.W.Frag} {mg : Str → Option Value} {base : Heap} (T : Tx K mg) (a : At K mg "_law_take" s__law_take ["bag", "many"]) : Kn P w K mg base "_law_take" 1 ["bag", "many"] sp__law_take :=
  Kn.mk a sc__law_take mono__law_take len__law_take (d__law_take T) pf__law_take
theorem kn__law_word {P : Program} {w : World} {K : PySem.W.Frag} {mg : Str → Option Value} {base : Heap} (T : Tx K mg) (a : At K mg "_law_word" s__law_word ["bag", "most"]) (c__law_take : Kn P w K mg base "_law_take" 1 ["bag", "many"] sp__law_take) : Kn P w K mg base "_law_word" 2 ["bag", "most"] sp__law_word :=
  Kn.mk a sc__law_word mono__law_word len__law_word (d__law_word T c__law_take) pf__law_word
theorem kn__law_key {P : Program} {w : World} {K : PySem.W.Frag} {mg : Str → Option Value} {base : Heap} (T : Tx K mg) (a : At K mg "_law_key" s__law_key ["bag"]) (c__law_take : Kn P w K mg base "_law_take" 1 ["bag", "many"] sp__law_take) (c__law_word : Kn P w K mg base "_law_word" 2 ["bag", "most"] sp__law_word) : Kn P w K mg base "_law_key" 3 ["bag"] sp__law_key :=
  Kn.mk a sc__law_key mono__law_key len__law_key (d__law_key T c__law_take c__law_word) pf__law_key
theorem kn_is_key {P : Program} {w : World} {K : PySem.W.Frag} {mg : Str → Option Value} {base : Heap} (T : Tx K mg) (a : At K mg "is_key" s_is_key ["thing"]) : Kn P w K mg base "is_key" 1 ["thing"] sp_is_key :=
  Kn.mk a sc_is_key mono_is_key len_is_key (d_is_key T) pf_is_key
theorem kn_need_key {P : Program} {w : World} {K : PySem.W.Frag} {mg : Str → Option Value} {base : Heap} (T : Tx K mg) (a : At K mg "need_key" s_need_key ["thing"]) (c_is_key : Kn P w K mg base "is_key" 1 ["thing"] sp_is_key) : KnX P w K mg base "need_key" 2 ["thing"] sp_need_key :=
  KnX.mk a sc_need_key mono_need_key len_need_key (d_need_key T c_is_key) pf_need_key
theorem kn_Page_begin {P : Program} {w : World} {K : PySem.W.Frag} {mg : Str → Option Value} {base : Heap} (T : Tx K mg) (a : AtM K "Page" "begin" "Page.begin" s_Page_begin ["self", "state"]) : KnM P w K mg base CX0 "Page" "begin" 1 ["self", "state"] sp_Page_begin :=
  KnM.mk a sc_Page_begin mono_Page_begin len_Page_begin (d_Page_begin T) pf_Page_begin
theorem kn_is_small {P : Program} {w : World} {K : PySem.W.Frag} {mg : Str → Option Value} {base : Heap} (T : Tx K mg) (a : At K mg "is_small" s_is_small ["thing"]) : Kn P w K mg base "is_small" 1 ["thing"] sp_is_small :=
  Kn.mk a sc_is_small mono_is_small len_is_small (d_is_small T) pf_is_small
theorem kn_is_reading {P : Program} {w : World} {K : PySem.W.Frag} {mg : Str → Option Value} {base : Heap} (T : Tx K mg) (a : At K mg "is_reading" s_is_reading ["thing"]) (c_is_small : Kn P w K mg base "is_small" 1 ["thing"] sp_is_small) : Kn P w K mg base "is_reading" 2 ["thing"] sp_is_reading :=
  Kn.mk a sc_is_reading mono_is_reading len_is_reading (d_is_reading T c_is_small) pf_is_reading
theorem kn_is_writing {P : Program} {w : World} {K : PySem.W.Frag} {mg : Str → Option Value} {base : Heap} (T : Tx K mg) (a : At K mg "is_writing" s_is_writing ["thing"]) : Kn P w K mg base "is_writing" 1 ["thing"] sp_is_writing :=
  Kn.mk a sc_is_writing mono_is_writing len_is_writing (d_is_writing T) pf_is_writing
theorem kn_is_segment {P : Program} {w : World} {K : PySem.W.Frag} {mg : Str → Option Value} {base : Heap} (T : Tx K mg) (a : At K mg "is_segment" s_is_segment ["thing"]) (c_is_reading : Kn P w K mg base "is_reading" 2 ["thing"] sp_is_reading) (c_is_writing : Kn P w K mg base "is_writing" 1 ["thing"] sp_is_writing) : Kn P w K mg base "is_segment" 3 ["thing"] sp_is_segment :=
  Kn.mk a sc_is_segment mono_is_segment len_is_segment (d_is_segment T c_is_reading c_is_writing) pf_is_segment
theorem kn_is_count {P : Program} {w : World} {K : PySem.W.Frag} {mg : Str → Option Value} {base : Heap} (T : Tx K mg) (a : At K mg "is_count" s_is_count ["thing"]) : Kn P w K mg base "is_count" 1 ["thing"] sp_is_count :=
  Kn.mk a sc_is_count mono_is_count len_is_count (d_is_count T) pf_is_count
theorem kn_is_state {P : Program} {w : World} {K : PySem.W.Frag} {mg : Str → Option Value} {base : Heap} (T : Tx K mg) (a : At K mg "is_state" s_is_state ["thing"]) (c_is_segment : Kn P w K mg base "is_segment" 3 ["thing"] sp_is_segment) (c_is_count : Kn P w K mg base "is_count" 1 ["thing"] sp_is_count) (c_is_small : Kn P w K mg base "is_small" 1 ["thing"] sp_is_small) : Kn P w K mg base "is_state" 4 ["thing"] sp_is_state :=
  Kn.mk a sc_is_state mono_is_state len_is_state (d_is_state T c_is_segment c_is_count c_is_small) pf_is_state
theorem kn_need_state {P : Program} {w : World} {K : PySem.W.Frag} {mg : Str → Option Value} {base : Heap} (T : Tx K mg) (a : At K mg "need_state" s_need_state ["thing"]) (c_is_state : Kn P w K mg base "is_state" 4 ["thing"] sp_is_state) : KnX P w K mg base "need_state" 5 ["thing"] sp_need_state :=
  KnX.mk a sc_need_state mono_need_state len_need_state (d_need_state T c_is_state) pf_need_state
theorem kn_reading_of {P : Program} {w : World} {K : PySem.W.Frag} {mg : Str → Option Value} {base : Heap} (T : Tx K mg) (a : At K mg "reading_of" s_reading_of ["state"]) (c_need_state : KnX P w K mg base "need_state" 5 ["thing"] sp_need_state) : KnX P w K mg base "reading_of" 6 ["state"] sp_reading_of :=
  KnX.mk a sc_reading_of mono_reading_of len_reading_of (d_reading_of T c_need_state) pf_reading_of
theorem kn_letters_of {P : Program} {w : World} {K : PySem.W.Frag} {mg : Str → Option Value} {base : Heap} (T : Tx K mg) (a : At K mg "letters_of" s_letters_of ["keys"]) : Kn P w K mg base "letters_of" 1 ["keys"] sp_letters_of :=
  Kn.mk a sc_letters_of mono_letters_of len_letters_of (d_letters_of T) pf_letters_of
theorem kn_Page_since {P : Program} {w : World} {K : PySem.W.Frag} {mg : Str → Option Value} {base : Heap} (T : Tx K mg) (a : AtM K "Page" "since" "Page.since" s_Page_since ["self"]) (c_letters_of : Kn P w K mg base "letters_of" 1 ["keys"] sp_letters_of) : KnM P w K mg base CX0 "Page" "since" 2 ["self"] sp_Page_since :=
  KnM.mk a sc_Page_since mono_Page_since len_Page_since (d_Page_since T c_letters_of) pf_Page_since
theorem kn_Page_key {P : Program} {w : World} {K : PySem.W.Frag} {mg : Str → Option Value} {base : Heap} (T : Tx K mg) (a : AtM K "Page" "key" "Page.key" s_Page_key ["self", "key"]) (c_need_key : KnX P w K mg base "need_key" 2 ["thing"] sp_need_key) (c_Page_begin : KnM P w K mg base CX0 "Page" "begin" 1 ["self", "state"] sp_Page_begin) (c_reading_of : KnX P w K mg base "reading_of" 6 ["state"] sp_reading_of) (c_Page_since : KnM P w K mg base CX0 "Page" "since" 2 ["self"] sp_Page_since) : KnM P w K mg base (L2.CX P w) "Page" "key" 7 ["self", "key"] sp_Page_key :=
  KnM.mkX a sc_Page_key mono_Page_key len_Page_key (d_Page_key T c_need_key c_Page_begin c_reading_of c_Page_since) pf_Page_key
theorem kn__law_reading {P : Program} {w : World} {K : PySem.W.Frag} {mg : Str → Option Value} {base : Heap} (T : Tx K mg) (a : At K mg "_law_reading" s__law_reading ["state"]) : Kn P w K mg base "_law_reading" 1 ["state"] sp__law_reading :=
  Kn.mk a sc__law_reading mono__law_reading len__law_reading (d__law_reading T) pf__law_reading
theorem kn__law_since {P : Program} {w : World} {K : PySem.W.Frag} {mg : Str → Option Value} {base : Heap} (T : Tx K mg) (a : At K mg "_law_since" s__law_since ["pressed", "answered"]) : Kn P w K mg base "_law_since" 1 ["pressed", "answered"] sp__law_since :=
  Kn.mk a sc__law_since mono__law_since len__law_since (d__law_since T) pf__law_since
theorem kn__law_key_right {P : Program} {w : World} {K : PySem.W.Frag} {mg : Str → Option Value} {base : Heap} (T : Tx K mg) (a : At K mg "_law_key_right" s__law_key_right ["page", "pressed", "answered", "state", "key"]) (c_Page_key : KnM P w K mg base (L2.CX P w) "Page" "key" 7 ["self", "key"] sp_Page_key) (c__law_reading : Kn P w K mg base "_law_reading" 1 ["state"] sp__law_reading) (c__law_since : Kn P w K mg base "_law_since" 1 ["pressed", "answered"] sp__law_since) : Kn P w K mg base "_law_key_right" 8 ["page", "pressed", "answered", "state", "key"] sp__law_key_right :=
  Kn.mk a sc__law_key_right mono__law_key_right len__law_key_right (d__law_key_right T c_Page_key c__law_reading c__law_since) pf__law_key_right
theorem kn__law_state {P : Program} {w : World} {K : PySem.W.Frag} {mg : Str → Option Value} {base : Heap} (T : Tx K mg) (a : At K mg "_law_state" s__law_state ["bag", "book"]) (c__law_take : Kn P w K mg base "_law_take" 1 ["bag", "many"] sp__law_take) (c__law_word : Kn P w K mg base "_law_word" 2 ["bag", "most"] sp__law_word) : Kn P w K mg base "_law_state" 3 ["bag", "book"] sp__law_state :=
  Kn.mk a sc__law_state mono__law_state len__law_state (d__law_state T c__law_take c__law_word) pf__law_state
theorem kn__law_shown {P : Program} {w : World} {K : PySem.W.Frag} {mg : Str → Option Value} {base : Heap} (T : Tx K mg) (a : At K mg "_law_shown" s__law_shown ["bag", "pressed", "most"]) (c__law_state : Kn P w K mg base "_law_state" 3 ["bag", "book"] sp__law_state) (c__law_reading : Kn P w K mg base "_law_reading" 1 ["state"] sp__law_reading) : Kn P w K mg base "_law_shown" 4 ["bag", "pressed", "most"] sp__law_shown :=
  Kn.mk a sc__law_shown mono__law_shown len__law_shown (d__law_shown T c__law_state c__law_reading) pf__law_shown
theorem kn_is_letter {P : Program} {w : World} {K : PySem.W.Frag} {mg : Str → Option Value} {base : Heap} (T : Tx K mg) (a : At K mg "is_letter" s_is_letter ["thing", "word", "many"]) : Kn P w K mg base "is_letter" 1 ["thing", "word", "many"] sp_is_letter :=
  Kn.mk a sc_is_letter mono_is_letter len_is_letter (d_is_letter T) pf_is_letter
theorem kn_Page_see {P : Program} {w : World} {K : PySem.W.Frag} {mg : Str → Option Value} {base : Heap} (T : Tx K mg) (a : AtM K "Page" "see" "Page.see" s_Page_see ["self", "number", "keys", "state"]) (c_reading_of : KnX P w K mg base "reading_of" 6 ["state"] sp_reading_of) (c_letters_of : Kn P w K mg base "letters_of" 1 ["keys"] sp_letters_of) : KnM P w K mg base (L2.CX P w) "Page" "see" 7 ["self", "number", "keys", "state"] sp_Page_see :=
  KnM.mkX a sc_Page_see mono_Page_see len_Page_see (d_Page_see T c_reading_of c_letters_of) pf_Page_see
theorem kn_Page_hear {P : Program} {w : World} {K : PySem.W.Frag} {mg : Str → Option Value} {base : Heap} (T : Tx K mg) (a : AtM K "Page" "hear" "Page.hear" s_Page_hear ["self", "letter"]) (c_is_letter : Kn P w K mg base "is_letter" 1 ["thing", "word", "many"] sp_is_letter) (c_is_count : Kn P w K mg base "is_count" 1 ["thing"] sp_is_count) (c_is_state : Kn P w K mg base "is_state" 4 ["thing"] sp_is_state) (c_Page_see : KnM P w K mg base (L2.CX P w) "Page" "see" 7 ["self", "number", "keys", "state"] sp_Page_see) : KnM P w K mg base (L2.CX P w) "Page" "hear" 8 ["self", "letter"] sp_Page_hear :=
  KnM.mkX a sc_Page_hear mono_Page_hear len_Page_hear (d_Page_hear T c_is_letter c_is_count c_is_state c_Page_see) pf_Page_hear
theorem kn_Page_composed {P : Program} {w : World} {K : PySem.W.Frag} {mg : Str → Option Value} {base : Heap} (T : Tx K mg) (a : AtM K "Page" "composed" "Page.composed" s_Page_composed ["self"]) : KnM P w K mg base CX0 "Page" "composed" 1 ["self"] sp_Page_composed :=
  KnM.mk a sc_Page_composed mono_Page_composed len_Page_composed (d_Page_composed T) pf_Page_composed
theorem kn_Page_shown {P : Program} {w : World} {K : PySem.W.Frag} {mg : Str → Option Value} {base : Heap} (T : Tx K mg) (a : AtM K "Page" "shown" "Page.shown" s_Page_shown ["self"]) : KnM P w K mg base CX0 "Page" "shown" 1 ["self"] sp_Page_shown :=
  KnM.mk a sc_Page_shown mono_Page_shown len_Page_shown (d_Page_shown T) pf_Page_shown
theorem kn_text_of {P : Program} {w : World} {K : PySem.W.Frag} {mg : Str → Option Value} {base : Heap} (T : Tx K mg) (a : At K mg "text_of" s_text_of ["state"]) (c_need_state : KnX P w K mg base "need_state" 5 ["thing"] sp_need_state) : KnX P w K mg base "text_of" 6 ["state"] sp_text_of :=
  KnX.mk a sc_text_of mono_text_of len_text_of (d_text_of T c_need_state) pf_text_of
theorem kn_Page_text {P : Program} {w : World} {K : PySem.W.Frag} {mg : Str → Option Value} {base : Heap} (T : Tx K mg) (a : AtM K "Page" "text" "Page.text" s_Page_text ["self"]) (c_text_of : KnX P w K mg base "text_of" 6 ["state"] sp_text_of) (c_Page_since : KnM P w K mg base CX0 "Page" "since" 2 ["self"] sp_Page_since) : KnM P w K mg base CX0 "Page" "text" 7 ["self"] sp_Page_text :=
  KnM.mk a sc_Page_text mono_Page_text len_Page_text (d_Page_text T c_text_of c_Page_since) pf_Page_text
theorem kn_Sheet_signs {P : Program} {w : World} {K : PySem.W.Frag} {mg : Str → Option Value} {base : Heap} (T : Tx K mg) (a : AtM K "Sheet" "signs" "Sheet.signs" s_Sheet_signs ["self"]) : KnM P w K mg base CX0 "Sheet" "signs" 1 ["self"] sp_Sheet_signs :=
  KnM.mk a sc_Sheet_signs mono_Sheet_signs len_Sheet_signs (d_Sheet_signs T) pf_Sheet_signs
theorem kn_Page_signs {P : Program} {w : World} {K : PySem.W.Frag} {mg : Str → Option Value} {base : Heap} (T : Tx K mg) (a : AtM K "Page" "signs" "Page.signs" s_Page_signs ["self"]) (c_Sheet_signs : KnM P w K mg base CX0 "Sheet" "signs" 1 ["self"] sp_Sheet_signs) : KnM P w K mg base CX0 "Page" "signs" 2 ["self"] sp_Page_signs :=
  KnM.mk a sc_Page_signs mono_Page_signs len_Page_signs (d_Page_signs T c_Sheet_signs) pf_Page_signs
theorem kn_Page_caret {P : Program} {w : World} {K : PySem.W.Frag} {mg : Str → Option Value} {base : Heap} (T : Tx K mg) (a : AtM K "Page" "caret" "Page.caret" s_Page_caret ["self"]) : KnM P w K mg base CX0 "Page" "caret" 1 ["self"] sp_Page_caret :=
  KnM.mk a sc_Page_caret mono_Page_caret len_Page_caret (d_Page_caret T) pf_Page_caret
theorem kn_Page_covered {P : Program} {w : World} {K : PySem.W.Frag} {mg : Str → Option Value} {base : Heap} (T : Tx K mg) (a : AtM K "Page" "covered" "Page.covered" s_Page_covered ["self"]) : KnM P w K mg base CX0 "Page" "covered" 1 ["self"] sp_Page_covered :=
  KnM.mk a sc_Page_covered mono_Page_covered len_Page_covered (d_Page_covered T) pf_Page_covered
theorem kn_Page_display {P : Program} {w : World} {K : PySem.W.Frag} {mg : Str → Option Value} {base : Heap} (T : Tx K mg) (a : AtM K "Page" "display" "Page.display" s_Page_display ["self"]) (c_Page_signs : KnM P w K mg base CX0 "Page" "signs" 2 ["self"] sp_Page_signs) (c_Page_caret : KnM P w K mg base CX0 "Page" "caret" 1 ["self"] sp_Page_caret) (c_Page_text : KnM P w K mg base CX0 "Page" "text" 7 ["self"] sp_Page_text) (c_Page_covered : KnM P w K mg base CX0 "Page" "covered" 1 ["self"] sp_Page_covered) : KnM P w K mg base CX0 "Page" "display" 8 ["self"] sp_Page_display :=
  KnM.mk a sc_Page_display mono_Page_display len_Page_display (d_Page_display T c_Page_signs c_Page_caret c_Page_text c_Page_covered) pf_Page_display
theorem kn_Sheet_cells {P : Program} {w : World} {K : PySem.W.Frag} {mg : Str → Option Value} {base : Heap} (T : Tx K mg) (a : AtM K "Sheet" "cells" "Sheet.cells" s_Sheet_cells ["self"]) : KnM P w K mg base CX0 "Sheet" "cells" 1 ["self"] sp_Sheet_cells :=
  KnM.mk a sc_Sheet_cells mono_Sheet_cells len_Sheet_cells (d_Sheet_cells T) pf_Sheet_cells
theorem kn_Page_cells {P : Program} {w : World} {K : PySem.W.Frag} {mg : Str → Option Value} {base : Heap} (T : Tx K mg) (a : AtM K "Page" "cells" "Page.cells" s_Page_cells ["self"]) (c_Sheet_cells : KnM P w K mg base CX0 "Sheet" "cells" 1 ["self"] sp_Sheet_cells) : KnM P w K mg base CX0 "Page" "cells" 2 ["self"] sp_Page_cells :=
  KnM.mk a sc_Page_cells mono_Page_cells len_Page_cells (d_Page_cells T c_Sheet_cells) pf_Page_cells
theorem kn_Sheet_need_segment {P : Program} {w : World} {K : PySem.W.Frag} {mg : Str → Option Value} {base : Heap} (T : Tx K mg) (a : AtM K "Sheet" "need_segment" "Sheet.need_segment" s_Sheet_need_segment ["self", "commit", "segment"]) (c_is_count : Kn P w K mg base "is_count" 1 ["thing"] sp_is_count) : KnM P w K mg base (L2.CX P w) "Sheet" "need_segment" 2 ["self", "commit", "segment"] sp_Sheet_need_segment :=
  KnM.mkX a sc_Sheet_need_segment mono_Sheet_need_segment len_Sheet_need_segment (d_Sheet_need_segment T c_is_count) pf_Sheet_need_segment
theorem kn_Sheet_segment {P : Program} {w : World} {K : PySem.W.Frag} {mg : Str → Option Value} {base : Heap} (T : Tx K mg) (a : AtM K "Sheet" "segment" "Sheet.segment" s_Sheet_segment ["self", "commit", "segment"]) (c_Sheet_need_segment : KnM P w K mg base (L2.CX P w) "Sheet" "need_segment" 2 ["self", "commit", "segment"] sp_Sheet_need_segment) : KnM P w K mg base (L2.CX P w) "Sheet" "segment" 3 ["self", "commit", "segment"] sp_Sheet_segment :=
  KnM.mkX a sc_Sheet_segment mono_Sheet_segment len_Sheet_segment (d_Sheet_segment T c_Sheet_need_segment) pf_Sheet_segment
theorem kn_cells_of {P : Program} {w : World} {K : PySem.W.Frag} {mg : Str → Option Value} {base : Heap} (T : Tx K mg) (a : At K mg "cells_of" s_cells_of ["commit", "segment", "writing"]) : Kn P w K mg base "cells_of" 1 ["commit", "segment", "writing"] sp_cells_of :=
  Kn.mk a sc_cells_of mono_cells_of len_cells_of (d_cells_of T) pf_cells_of
theorem kn_Sheet_where {P : Program} {w : World} {K : PySem.W.Frag} {mg : Str → Option Value} {base : Heap} (T : Tx K mg) (a : AtM K "Sheet" "where" "Sheet.where" s_Sheet_where ["self", "commit", "segment"]) (c_Sheet_segment : KnM P w K mg base (L2.CX P w) "Sheet" "segment" 3 ["self", "commit", "segment"] sp_Sheet_segment) (c_cells_of : Kn P w K mg base "cells_of" 1 ["commit", "segment", "writing"] sp_cells_of) : KnM P w K mg base (L2.CX P w) "Sheet" "where" 4 ["self", "commit", "segment"] sp_Sheet_where :=
  KnM.mkX a sc_Sheet_where mono_Sheet_where len_Sheet_where (d_Sheet_where T c_Sheet_segment c_cells_of) pf_Sheet_where
theorem kn_Sheet_words {P : Program} {w : World} {K : PySem.W.Frag} {mg : Str → Option Value} {base : Heap} (T : Tx K mg) (a : AtM K "Sheet" "words" "Sheet.words" s_Sheet_words ["self"]) (c_Sheet_where : KnM P w K mg base (L2.CX P w) "Sheet" "where" 4 ["self", "commit", "segment"] sp_Sheet_where) : KnM P w K mg base CX0 "Sheet" "words" 5 ["self"] sp_Sheet_words :=
  KnM.mk a sc_Sheet_words mono_Sheet_words len_Sheet_words (d_Sheet_words T c_Sheet_where) pf_Sheet_words
theorem kn_Page_words {P : Program} {w : World} {K : PySem.W.Frag} {mg : Str → Option Value} {base : Heap} (T : Tx K mg) (a : AtM K "Page" "words" "Page.words" s_Page_words ["self"]) (c_Sheet_words : KnM P w K mg base CX0 "Sheet" "words" 5 ["self"] sp_Sheet_words) : KnM P w K mg base CX0 "Page" "words" 6 ["self"] sp_Page_words :=
  KnM.mk a sc_Page_words mono_Page_words len_Page_words (d_Page_words T c_Sheet_words) pf_Page_words
theorem kn_Sheet_steps {P : Program} {w : World} {K : PySem.W.Frag} {mg : Str → Option Value} {base : Heap} (T : Tx K mg) (a : AtM K "Sheet" "steps" "Sheet.steps" s_Sheet_steps ["self"]) : KnM P w K mg base CX0 "Sheet" "steps" 1 ["self"] sp_Sheet_steps :=
  KnM.mk a sc_Sheet_steps mono_Sheet_steps len_Sheet_steps (d_Sheet_steps T) pf_Sheet_steps
theorem kn_Page_steps {P : Program} {w : World} {K : PySem.W.Frag} {mg : Str → Option Value} {base : Heap} (T : Tx K mg) (a : AtM K "Page" "steps" "Page.steps" s_Page_steps ["self"]) (c_Sheet_steps : KnM P w K mg base CX0 "Sheet" "steps" 1 ["self"] sp_Sheet_steps) : KnM P w K mg base CX0 "Page" "steps" 2 ["self"] sp_Page_steps :=
  KnM.mk a sc_Page_steps mono_Page_steps len_Page_steps (d_Page_steps T c_Sheet_steps) pf_Page_steps
theorem kn__law_told_right {P : Program} {w : World} {K : PySem.W.Frag} {mg : Str → Option Value} {base : Heap} (T : Tx K mg) (a : At K mg "_law_told_right" s__law_told_right ["page", "pressed", "answered", "state"]) (c__law_since : Kn P w K mg base "_law_since" 1 ["pressed", "answered"] sp__law_since) (c_Page_composed : KnM P w K mg base CX0 "Page" "composed" 1 ["self"] sp_Page_composed) (c_Page_shown : KnM P w K mg base CX0 "Page" "shown" 1 ["self"] sp_Page_shown) (c_Page_text : KnM P w K mg base CX0 "Page" "text" 7 ["self"] sp_Page_text) (c_Page_display : KnM P w K mg base CX0 "Page" "display" 8 ["self"] sp_Page_display) (c_Page_caret : KnM P w K mg base CX0 "Page" "caret" 1 ["self"] sp_Page_caret) (c_Page_covered : KnM P w K mg base CX0 "Page" "covered" 1 ["self"] sp_Page_covered) (c_Page_cells : KnM P w K mg base CX0 "Page" "cells" 2 ["self"] sp_Page_cells) (c_Page_words : KnM P w K mg base CX0 "Page" "words" 6 ["self"] sp_Page_words) (c_Page_steps : KnM P w K mg base CX0 "Page" "steps" 2 ["self"] sp_Page_steps) : Kn P w K mg base "_law_told_right" 9 ["page", "pressed", "answered", "state"] sp__law_told_right :=
  Kn.mk a sc__law_told_right mono__law_told_right len__law_told_right (d__law_told_right T c__law_since c_Page_composed c_Page_shown c_Page_text c_Page_display c_Page_caret c_Page_covered c_Page_cells c_Page_words c_Page_steps) pf__law_told_right
theorem all_mk {P : Program} {w : World} {K : PySem.W.Frag} {h : Heap} {mg : Str → Option Value} {fa : Addr} (X : K.In h) (G : h.Ns mainGlobals mg) (hfa : mg "law" = some (.ref fa))
    {C_Page : Addr}
    {C_Site : Addr}
    {C_Sheet : Addr}
    {f1 : Addr} {od1 an1 : Option Addr} {sl1 : Array (Option Value)} {oc1 kV1 dc1 pm1 cd1 ct1 : Value}
    {f2 : Addr} {od2 an2 : Option Addr} {sl2 : Array (Option Value)} {oc2 kV2 dc2 pm2 cd2 ct2 : Value}
    {f3 : Addr} {od3 an3 : Option Addr} {sl3 : Array (Option Value)} {oc3 kV3 dc3 pm3 cd3 ct3 : Value}
    {f4 : Addr} {od4 an4 : Option Addr} {sl4 : Array (Option Value)} {oc4 kV4 dc4 pm4 cd4 ct4 : Value}
    {f5 : Addr} {od5 an5 : Option Addr} {sl5 : Array (Option Value)} {oc5 kV5 dc5 pm5 cd5 ct5 : Value}
    {f6 : Addr} {od6 an6 : Option Addr} {sl6 : Array (Option Value)} {oc6 kV6 dc6 pm6 cd6 ct6 : Value}
    {f7 : Addr} {od7 an7 : Option Addr} {sl7 : Array (Option Value)} {oc7 kV7 dc7 pm7 cd7 ct7 : Value}
    {f8 : Addr} {od8 an8 : Option Addr} {sl8 : Array (Option Value)} {oc8 kV8 dc8 pm8 cd8 ct8 : Value}
    {f9 : Addr} {od9 an9 : Option Addr} {sl9 : Array (Option Value)} {oc9 kV9 dc9 pm9 cd9 ct9 : Value}
    {f10 : Addr} {od10 an10 : Option Addr} {sl10 : Array (Option Value)} {oc10 kV10 dc10 pm10 cd10 ct10 : Value}
    {f11 : Addr} {od11 an11 : Option Addr} {sl11 : Array (Option Value)} {oc11 kV11 dc11 pm11 cd11 ct11 : Value}
    {f12 : Addr} {od12 an12 : Option Addr} {sl12 : Array (Option Value)} {oc12 kV12 dc12 pm12 cd12 ct12 : Value}
    {f13 : Addr} {od13 an13 : Option Addr} {sl13 : Array (Option Value)} {oc13 kV13 dc13 pm13 cd13 ct13 : Value}
    {f14 : Addr} {od14 an14 : Option Addr} {sl14 : Array (Option Value)} {oc14 kV14 dc14 pm14 cd14 ct14 : Value}
    {f15 : Addr} {od15 an15 : Option Addr} {sl15 : Array (Option Value)} {oc15 kV15 dc15 pm15 cd15 ct15 : Value}
    {f16 : Addr} {od16 an16 : Option Addr} {sl16 : Array (Option Value)} {oc16 kV16 dc16 pm16 cd16 ct16 : Value}
    {f17 : Addr} {od17 an17 : Option Addr} {sl17 : Array (Option Value)} {oc17 kV17 dc17 pm17 cd17 ct17 : Value}
    {f18 : Addr} {od18 an18 : Option Addr} {sl18 : Array (Option Value)} {oc18 kV18 dc18 pm18 cd18 ct18 : Value}
    {f19 : Addr} {od19 an19 : Option Addr} {sl19 : Array (Option Value)} {oc19 kV19 dc19 pm19 cd19 ct19 : Value}
    {f20 : Addr} {od20 an20 : Option Addr} {sl20 : Array (Option Value)} {oc20 kV20 dc20 pm20 cd20 ct20 : Value}
    {f21 : Addr} {od21 an21 : Option Addr} {sl21 : Array (Option Value)} {oc21 kV21 dc21 pm21 cd21 ct21 : Value}
    {f22 : Addr} {od22 an22 : Option Addr} {sl22 : Array (Option Value)} {oc22 kV22 dc22 pm22 cd22 ct22 : Value}
    {f23 : Addr} {od23 an23 : Option Addr} {sl23 : Array (Option Value)} {oc23 kV23 dc23 pm23 cd23 ct23 : Value}
    {f24 : Addr} {od24 an24 : Option Addr} {sl24 : Array (Option Value)} {oc24 kV24 dc24 pm24 cd24 ct24 : Value}
    {f25 : Addr} {od25 an25 : Option Addr} {sl25 : Array (Option Value)} {oc25 kV25 dc25 pm25 cd25 ct25 : Value}
    {f26 : Addr} {od26 an26 : Option Addr} {sl26 : Array (Option Value)} {oc26 kV26 dc26 pm26 cd26 ct26 : Value}
    {f27 : Addr} {od27 an27 : Option Addr} {sl27 : Array (Option Value)} {oc27 kV27 dc27 pm27 cd27 ct27 : Value}
    {f28 : Addr} {od28 an28 : Option Addr} {sl28 : Array (Option Value)} {oc28 kV28 dc28 pm28 cd28 ct28 : Value}
    {f29 : Addr} {od29 an29 : Option Addr} {sl29 : Array (Option Value)} {oc29 kV29 dc29 pm29 cd29 ct29 : Value}
    {f30 : Addr} {od30 an30 : Option Addr} {sl30 : Array (Option Value)} {oc30 kV30 dc30 pm30 cd30 ct30 : Value}
    {f31 : Addr} {od31 an31 : Option Addr} {sl31 : Array (Option Value)} {oc31 kV31 dc31 pm31 cd31 ct31 : Value}
    {f32 : Addr} {od32 an32 : Option Addr} {sl32 : Array (Option Value)} {oc32 kV32 dc32 pm32 cd32 ct32 : Value}
    {f33 : Addr} {od33 an33 : Option Addr} {sl33 : Array (Option Value)} {oc33 kV33 dc33 pm33 cd33 ct33 : Value}
    {f34 : Addr} {od34 an34 : Option Addr} {sl34 : Array (Option Value)} {oc34 kV34 dc34 pm34 cd34 ct34 : Value}
    {f35 : Addr} {od35 an35 : Option Addr} {sl35 : Array (Option Value)} {oc35 kV35 dc35 pm35 cd35 ct35 : Value}
    {f36 : Addr} {od36 an36 : Option Addr} {sl36 : Array (Option Value)} {oc36 kV36 dc36 pm36 cd36 ct36 : Value}
    {f37 : Addr} {od37 an37 : Option Addr} {sl37 : Array (Option Value)} {oc37 kV37 dc37 pm37 cd37 ct37 : Value}
    {f38 : Addr} {od38 an38 : Option Addr} {sl38 : Array (Option Value)} {oc38 kV38 dc38 pm38 cd38 ct38 : Value}
    {f39 : Addr} {od39 an39 : Option Addr} {sl39 : Array (Option Value)} {oc39 kV39 dc39 pm39 cd39 ct39 : Value}
    {f40 : Addr} {od40 an40 : Option Addr} {sl40 : Array (Option Value)} {oc40 kV40 dc40 pm40 cd40 ct40 : Value}
    {f41 : Addr} {od41 an41 : Option Addr} {sl41 : Array (Option Value)} {oc41 kV41 dc41 pm41 cd41 ct41 : Value}
    {f42 : Addr} {od42 an42 : Option Addr} {sl42 : Array (Option Value)} {oc42 kV42 dc42 pm42 cd42 ct42 : Value}
    {f43 : Addr} {od43 an43 : Option Addr} {sl43 : Array (Option Value)} {oc43 kV43 dc43 pm43 cd43 ct43 : Value}
    {f44 : Addr} {od44 an44 : Option Addr} {sl44 : Array (Option Value)} {oc44 kV44 dc44 pm44 cd44 ct44 : Value}
    {f45 : Addr} {od45 an45 : Option Addr} {sl45 : Array (Option Value)} {oc45 kV45 dc45 pm45 cd45 ct45 : Value}
    {f46 : Addr} {od46 an46 : Option Addr} {sl46 : Array (Option Value)} {oc46 kV46 dc46 pm46 cd46 ct46 : Value}
    {f47 : Addr} {od47 an47 : Option Addr} {sl47 : Array (Option Value)} {oc47 kV47 dc47 pm47 cd47 ct47 : Value}
    {f48 : Addr} {od48 an48 : Option Addr} {sl48 : Array (Option Value)} {oc48 kV48 dc48 pm48 cd48 ct48 : Value}
    {f49 : Addr} {od49 an49 : Option Addr} {sl49 : Array (Option Value)} {oc49 kV49 dc49 pm49 cd49 ct49 : Value}
    {f50 : Addr} {od50 an50 : Option Addr} {sl50 : Array (Option Value)} {oc50 kV50 dc50 pm50 cd50 ct50 : Value}
    {t_LARGE : Tok}
    {t_LETTERS : Tok}
    {t_LONGEST : Tok}
    {t_MOST : Tok}
    {g_NAMED : Addr} {o_NAMED : Option Addr} {n_NAMED : Nat} {s_NAMED : Array (Option Value)} {t_NAMED0 t_NAMED1 t_NAMED2 t_NAMED3 t_NAMED4 t_NAMED5 t_NAMED6 t_NAMED7 t_NAMED8 : Tok}
    {g_NOTHING e_NOTHING : Addr} {o_NOTHING q_NOTHING : Option Addr} {n_NOTHING m_NOTHING : Nat} {s_NOTHING r_NOTHING : Array (Option Value)} {t_NOTHING u_NOTHING : Tok}
    {t_SMALL : Tok}
    {C_Full : Addr}
    {C_NoCommit : Addr}
    {C_NoKey : Addr}
    {C_NoNumber : Addr}
    {C_NoState : Addr}
    (y_Page : PySem.W.nsIn K mainGlobals "Page" = some (some (.ref C_Page))) (p1_Page : PySem.W.plainGet K C_Page Str.empty = true) (p2_Page : PySem.W.hasDictIn K C_Page = true) (p3_Page : PySem.W.plainOver K C_Page = true) (p4_Page : PySem.W.findIn K (.ref C_Page) "__setattr__" = some (some (.builtin "object.__setattr__")))
    (p5_Page : PySem.W.makesIn K C_Page = true) (p6_Page : PySem.W.keepIn K (.ref C_Page) = true)
    (y_Site : PySem.W.nsIn K mainGlobals "Site" = some (some (.ref C_Site))) (p1_Site : PySem.W.plainGet K C_Site Str.empty = true) (p2_Site : PySem.W.hasDictIn K C_Site = true) (p3_Site : PySem.W.plainOver K C_Site = true) (p4_Site : PySem.W.findIn K (.ref C_Site) "__setattr__" = some (some (.builtin "object.__setattr__")))
    (p5_Site : PySem.W.makesIn K C_Site = true) (p6_Site : PySem.W.keepIn K (.ref C_Site) = true)
    (y_Sheet : PySem.W.nsIn K mainGlobals "Sheet" = some (some (.ref C_Sheet))) (p1_Sheet : PySem.W.plainGet K C_Sheet Str.empty = true) (p2_Sheet : PySem.W.hasDictIn K C_Sheet = true) (p3_Sheet : PySem.W.plainOver K C_Sheet = true) (p4_Sheet : PySem.W.findIn K (.ref C_Sheet) "__setattr__" = some (some (.builtin "object.__setattr__")))
    (p5_Sheet : PySem.W.makesIn K C_Sheet = true) (p6_Sheet : PySem.W.keepIn K (.ref C_Sheet) = true)
    (g_Page_answered : PySem.W.findIn K (.ref C_Page) "answered" = some none)
    (g_Page_begun : PySem.W.findIn K (.ref C_Page) "begun" = some none)
    (g_Page_latest : PySem.W.findIn K (.ref C_Page) "latest" = some none)
    (g_Page_number : PySem.W.findIn K (.ref C_Page) "number" = some none)
    (g_Page_pressed : PySem.W.findIn K (.ref C_Page) "pressed" = some none)
    (g_Page_site : PySem.W.findIn K (.ref C_Page) "site" = some none)
    (g_Sheet_cell_row : PySem.W.findIn K (.ref C_Sheet) "cell_row" = some none)
    (g_Sheet_later : PySem.W.findIn K (.ref C_Sheet) "later" = some none)
    (g_Sheet_pair_rows : PySem.W.findIn K (.ref C_Sheet) "pair_rows" = some none)
    (g_Sheet_past : PySem.W.findIn K (.ref C_Sheet) "past" = some none)
    (g_Sheet_upright : PySem.W.findIn K (.ref C_Sheet) "upright" = some none)
    (g_Site_caret_at : PySem.W.findIn K (.ref C_Site) "caret_at" = some none)
    (g_Site_covered_many : PySem.W.findIn K (.ref C_Site) "covered_many" = some none)
    (g_Site_sheet : PySem.W.findIn K (.ref C_Site) "sheet" = some none)
    (a1 : PySem.W.nsIn K mainGlobals "_law_bag" = some (some (.ref f1))) (l1 : K.lookup f1 = some ⟨oc1, od1, .func (PySem.W.fnOf "_law_bag" "_law_bag" (defArgs s__law_bag) (defBody s__law_bag) (defScope s__law_bag) .none kV1 dc1 pm1 an1 cd1 ct1), sl1⟩) (q1 : PySem.W.codeIn K cd1 "_law_bag" = true) (k1 : PySem.W.keepIn K (.ref f1) = true)
    (a2 : PySem.W.findIn K (.ref C_Sheet) "__init__" = some (some (.ref f2))) (n2 : PySem.W.isFn K (.ref f2) = true) (l2 : K.lookup f2 = some ⟨oc2, od2, .func (PySem.W.fnOf "__init__" "Sheet.__init__" (defArgs s_Sheet___init__) (defBody s_Sheet___init__) (defScope s_Sheet___init__) .none kV2 dc2 pm2 an2 cd2 ct2), sl2⟩) (q2 : PySem.W.codeIn K cd2 "Sheet.__init__" = true) (k2 : PySem.W.keepIn K (.ref f2) = true)
    (a3 : PySem.W.findIn K (.ref C_Site) "__init__" = some (some (.ref f3))) (n3 : PySem.W.isFn K (.ref f3) = true) (l3 : K.lookup f3 = some ⟨oc3, od3, .func (PySem.W.fnOf "__init__" "Site.__init__" (defArgs s_Site___init__) (defBody s_Site___init__) (defScope s_Site___init__) .none kV3 dc3 pm3 an3 cd3 ct3), sl3⟩) (q3 : PySem.W.codeIn K cd3 "Site.__init__" = true) (k3 : PySem.W.keepIn K (.ref f3) = true)
    (a4 : PySem.W.findIn K (.ref C_Page) "__init__" = some (some (.ref f4))) (n4 : PySem.W.isFn K (.ref f4) = true) (l4 : K.lookup f4 = some ⟨oc4, od4, .func (PySem.W.fnOf "__init__" "Page.__init__" (defArgs s_Page___init__) (defBody s_Page___init__) (defScope s_Page___init__) .none kV4 dc4 pm4 an4 cd4 ct4), sl4⟩) (q4 : PySem.W.codeIn K cd4 "Page.__init__" = true) (k4 : PySem.W.keepIn K (.ref f4) = true)
    (a5 : PySem.W.nsIn K mainGlobals "_law_take" = some (some (.ref f5))) (l5 : K.lookup f5 = some ⟨oc5, od5, .func (PySem.W.fnOf "_law_take" "_law_take" (defArgs s__law_take) (defBody s__law_take) (defScope s__law_take) .none kV5 dc5 pm5 an5 cd5 ct5), sl5⟩) (q5 : PySem.W.codeIn K cd5 "_law_take" = true) (k5 : PySem.W.keepIn K (.ref f5) = true)
    (a6 : PySem.W.nsIn K mainGlobals "_law_word" = some (some (.ref f6))) (l6 : K.lookup f6 = some ⟨oc6, od6, .func (PySem.W.fnOf "_law_word" "_law_word" (defArgs s__law_word) (defBody s__law_word) (defScope s__law_word) .none kV6 dc6 pm6 an6 cd6 ct6), sl6⟩) (q6 : PySem.W.codeIn K cd6 "_law_word" = true) (k6 : PySem.W.keepIn K (.ref f6) = true)
    (a7 : PySem.W.nsIn K mainGlobals "_law_key" = some (some (.ref f7))) (l7 : K.lookup f7 = some ⟨oc7, od7, .func (PySem.W.fnOf "_law_key" "_law_key" (defArgs s__law_key) (defBody s__law_key) (defScope s__law_key) .none kV7 dc7 pm7 an7 cd7 ct7), sl7⟩) (q7 : PySem.W.codeIn K cd7 "_law_key" = true) (k7 : PySem.W.keepIn K (.ref f7) = true)
    (a8 : PySem.W.nsIn K mainGlobals "is_key" = some (some (.ref f8))) (l8 : K.lookup f8 = some ⟨oc8, od8, .func (PySem.W.fnOf "is_key" "is_key" (defArgs s_is_key) (defBody s_is_key) (defScope s_is_key) .none kV8 dc8 pm8 an8 cd8 ct8), sl8⟩) (q8 : PySem.W.codeIn K cd8 "is_key" = true) (k8 : PySem.W.keepIn K (.ref f8) = true)
    (a9 : PySem.W.nsIn K mainGlobals "need_key" = some (some (.ref f9))) (l9 : K.lookup f9 = some ⟨oc9, od9, .func (PySem.W.fnOf "need_key" "need_key" (defArgs s_need_key) (defBody s_need_key) (defScope s_need_key) .none kV9 dc9 pm9 an9 cd9 ct9), sl9⟩) (q9 : PySem.W.codeIn K cd9 "need_key" = true) (k9 : PySem.W.keepIn K (.ref f9) = true)
    (a10 : PySem.W.findIn K (.ref C_Page) "begin" = some (some (.ref f10))) (n10 : PySem.W.isFn K (.ref f10) = true) (l10 : K.lookup f10 = some ⟨oc10, od10, .func (PySem.W.fnOf "begin" "Page.begin" (defArgs s_Page_begin) (defBody s_Page_begin) (defScope s_Page_begin) .none kV10 dc10 pm10 an10 cd10 ct10), sl10⟩) (q10 : PySem.W.codeIn K cd10 "Page.begin" = true) (k10 : PySem.W.keepIn K (.ref f10) = true)
    (a11 : PySem.W.nsIn K mainGlobals "is_small" = some (some (.ref f11))) (l11 : K.lookup f11 = some ⟨oc11, od11, .func (PySem.W.fnOf "is_small" "is_small" (defArgs s_is_small) (defBody s_is_small) (defScope s_is_small) .none kV11 dc11 pm11 an11 cd11 ct11), sl11⟩) (q11 : PySem.W.codeIn K cd11 "is_small" = true) (k11 : PySem.W.keepIn K (.ref f11) = true)
    (a12 : PySem.W.nsIn K mainGlobals "is_reading" = some (some (.ref f12))) (l12 : K.lookup f12 = some ⟨oc12, od12, .func (PySem.W.fnOf "is_reading" "is_reading" (defArgs s_is_reading) (defBody s_is_reading) (defScope s_is_reading) .none kV12 dc12 pm12 an12 cd12 ct12), sl12⟩) (q12 : PySem.W.codeIn K cd12 "is_reading" = true) (k12 : PySem.W.keepIn K (.ref f12) = true)
    (a13 : PySem.W.nsIn K mainGlobals "is_writing" = some (some (.ref f13))) (l13 : K.lookup f13 = some ⟨oc13, od13, .func (PySem.W.fnOf "is_writing" "is_writing" (defArgs s_is_writing) (defBody s_is_writing) (defScope s_is_writing) .none kV13 dc13 pm13 an13 cd13 ct13), sl13⟩) (q13 : PySem.W.codeIn K cd13 "is_writing" = true) (k13 : PySem.W.keepIn K (.ref f13) = true)
    (a14 : PySem.W.nsIn K mainGlobals "is_segment" = some (some (.ref f14))) (l14 : K.lookup f14 = some ⟨oc14, od14, .func (PySem.W.fnOf "is_segment" "is_segment" (defArgs s_is_segment) (defBody s_is_segment) (defScope s_is_segment) .none kV14 dc14 pm14 an14 cd14 ct14), sl14⟩) (q14 : PySem.W.codeIn K cd14 "is_segment" = true) (k14 : PySem.W.keepIn K (.ref f14) = true)
    (a15 : PySem.W.nsIn K mainGlobals "is_count" = some (some (.ref f15))) (l15 : K.lookup f15 = some ⟨oc15, od15, .func (PySem.W.fnOf "is_count" "is_count" (defArgs s_is_count) (defBody s_is_count) (defScope s_is_count) .none kV15 dc15 pm15 an15 cd15 ct15), sl15⟩) (q15 : PySem.W.codeIn K cd15 "is_count" = true) (k15 : PySem.W.keepIn K (.ref f15) = true)
    (a16 : PySem.W.nsIn K mainGlobals "is_state" = some (some (.ref f16))) (l16 : K.lookup f16 = some ⟨oc16, od16, .func (PySem.W.fnOf "is_state" "is_state" (defArgs s_is_state) (defBody s_is_state) (defScope s_is_state) .none kV16 dc16 pm16 an16 cd16 ct16), sl16⟩) (q16 : PySem.W.codeIn K cd16 "is_state" = true) (k16 : PySem.W.keepIn K (.ref f16) = true)
    (a17 : PySem.W.nsIn K mainGlobals "need_state" = some (some (.ref f17))) (l17 : K.lookup f17 = some ⟨oc17, od17, .func (PySem.W.fnOf "need_state" "need_state" (defArgs s_need_state) (defBody s_need_state) (defScope s_need_state) .none kV17 dc17 pm17 an17 cd17 ct17), sl17⟩) (q17 : PySem.W.codeIn K cd17 "need_state" = true) (k17 : PySem.W.keepIn K (.ref f17) = true)
    (a18 : PySem.W.nsIn K mainGlobals "reading_of" = some (some (.ref f18))) (l18 : K.lookup f18 = some ⟨oc18, od18, .func (PySem.W.fnOf "reading_of" "reading_of" (defArgs s_reading_of) (defBody s_reading_of) (defScope s_reading_of) .none kV18 dc18 pm18 an18 cd18 ct18), sl18⟩) (q18 : PySem.W.codeIn K cd18 "reading_of" = true) (k18 : PySem.W.keepIn K (.ref f18) = true)
    (a19 : PySem.W.nsIn K mainGlobals "letters_of" = some (some (.ref f19))) (l19 : K.lookup f19 = some ⟨oc19, od19, .func (PySem.W.fnOf "letters_of" "letters_of" (defArgs s_letters_of) (defBody s_letters_of) (defScope s_letters_of) .none kV19 dc19 pm19 an19 cd19 ct19), sl19⟩) (q19 : PySem.W.codeIn K cd19 "letters_of" = true) (k19 : PySem.W.keepIn K (.ref f19) = true)
    (a20 : PySem.W.findIn K (.ref C_Page) "since" = some (some (.ref f20))) (n20 : PySem.W.isFn K (.ref f20) = true) (l20 : K.lookup f20 = some ⟨oc20, od20, .func (PySem.W.fnOf "since" "Page.since" (defArgs s_Page_since) (defBody s_Page_since) (defScope s_Page_since) .none kV20 dc20 pm20 an20 cd20 ct20), sl20⟩) (q20 : PySem.W.codeIn K cd20 "Page.since" = true) (k20 : PySem.W.keepIn K (.ref f20) = true)
    (a21 : PySem.W.findIn K (.ref C_Page) "key" = some (some (.ref f21))) (n21 : PySem.W.isFn K (.ref f21) = true) (l21 : K.lookup f21 = some ⟨oc21, od21, .func (PySem.W.fnOf "key" "Page.key" (defArgs s_Page_key) (defBody s_Page_key) (defScope s_Page_key) .none kV21 dc21 pm21 an21 cd21 ct21), sl21⟩) (q21 : PySem.W.codeIn K cd21 "Page.key" = true) (k21 : PySem.W.keepIn K (.ref f21) = true)
    (a22 : PySem.W.nsIn K mainGlobals "_law_reading" = some (some (.ref f22))) (l22 : K.lookup f22 = some ⟨oc22, od22, .func (PySem.W.fnOf "_law_reading" "_law_reading" (defArgs s__law_reading) (defBody s__law_reading) (defScope s__law_reading) .none kV22 dc22 pm22 an22 cd22 ct22), sl22⟩) (q22 : PySem.W.codeIn K cd22 "_law_reading" = true) (k22 : PySem.W.keepIn K (.ref f22) = true)
    (a23 : PySem.W.nsIn K mainGlobals "_law_since" = some (some (.ref f23))) (l23 : K.lookup f23 = some ⟨oc23, od23, .func (PySem.W.fnOf "_law_since" "_law_since" (defArgs s__law_since) (defBody s__law_since) (defScope s__law_since) .none kV23 dc23 pm23 an23 cd23 ct23), sl23⟩) (q23 : PySem.W.codeIn K cd23 "_law_since" = true) (k23 : PySem.W.keepIn K (.ref f23) = true)
    (a24 : PySem.W.nsIn K mainGlobals "_law_key_right" = some (some (.ref f24))) (l24 : K.lookup f24 = some ⟨oc24, od24, .func (PySem.W.fnOf "_law_key_right" "_law_key_right" (defArgs s__law_key_right) (defBody s__law_key_right) (defScope s__law_key_right) .none kV24 dc24 pm24 an24 cd24 ct24), sl24⟩) (q24 : PySem.W.codeIn K cd24 "_law_key_right" = true) (k24 : PySem.W.keepIn K (.ref f24) = true)
    (a25 : PySem.W.nsIn K mainGlobals "_law_state" = some (some (.ref f25))) (l25 : K.lookup f25 = some ⟨oc25, od25, .func (PySem.W.fnOf "_law_state" "_law_state" (defArgs s__law_state) (defBody s__law_state) (defScope s__law_state) .none kV25 dc25 pm25 an25 cd25 ct25), sl25⟩) (q25 : PySem.W.codeIn K cd25 "_law_state" = true) (k25 : PySem.W.keepIn K (.ref f25) = true)
    (a26 : PySem.W.nsIn K mainGlobals "_law_shown" = some (some (.ref f26))) (l26 : K.lookup f26 = some ⟨oc26, od26, .func (PySem.W.fnOf "_law_shown" "_law_shown" (defArgs s__law_shown) (defBody s__law_shown) (defScope s__law_shown) .none kV26 dc26 pm26 an26 cd26 ct26), sl26⟩) (q26 : PySem.W.codeIn K cd26 "_law_shown" = true) (k26 : PySem.W.keepIn K (.ref f26) = true)
    (a27 : PySem.W.nsIn K mainGlobals "is_letter" = some (some (.ref f27))) (l27 : K.lookup f27 = some ⟨oc27, od27, .func (PySem.W.fnOf "is_letter" "is_letter" (defArgs s_is_letter) (defBody s_is_letter) (defScope s_is_letter) .none kV27 dc27 pm27 an27 cd27 ct27), sl27⟩) (q27 : PySem.W.codeIn K cd27 "is_letter" = true) (k27 : PySem.W.keepIn K (.ref f27) = true)
    (a28 : PySem.W.findIn K (.ref C_Page) "see" = some (some (.ref f28))) (n28 : PySem.W.isFn K (.ref f28) = true) (l28 : K.lookup f28 = some ⟨oc28, od28, .func (PySem.W.fnOf "see" "Page.see" (defArgs s_Page_see) (defBody s_Page_see) (defScope s_Page_see) .none kV28 dc28 pm28 an28 cd28 ct28), sl28⟩) (q28 : PySem.W.codeIn K cd28 "Page.see" = true) (k28 : PySem.W.keepIn K (.ref f28) = true)
    (a29 : PySem.W.findIn K (.ref C_Page) "hear" = some (some (.ref f29))) (n29 : PySem.W.isFn K (.ref f29) = true) (l29 : K.lookup f29 = some ⟨oc29, od29, .func (PySem.W.fnOf "hear" "Page.hear" (defArgs s_Page_hear) (defBody s_Page_hear) (defScope s_Page_hear) .none kV29 dc29 pm29 an29 cd29 ct29), sl29⟩) (q29 : PySem.W.codeIn K cd29 "Page.hear" = true) (k29 : PySem.W.keepIn K (.ref f29) = true)
    (a30 : PySem.W.findIn K (.ref C_Page) "composed" = some (some (.ref f30))) (n30 : PySem.W.isFn K (.ref f30) = true) (l30 : K.lookup f30 = some ⟨oc30, od30, .func (PySem.W.fnOf "composed" "Page.composed" (defArgs s_Page_composed) (defBody s_Page_composed) (defScope s_Page_composed) .none kV30 dc30 pm30 an30 cd30 ct30), sl30⟩) (q30 : PySem.W.codeIn K cd30 "Page.composed" = true) (k30 : PySem.W.keepIn K (.ref f30) = true)
    (a31 : PySem.W.findIn K (.ref C_Page) "shown" = some (some (.ref f31))) (n31 : PySem.W.isFn K (.ref f31) = true) (l31 : K.lookup f31 = some ⟨oc31, od31, .func (PySem.W.fnOf "shown" "Page.shown" (defArgs s_Page_shown) (defBody s_Page_shown) (defScope s_Page_shown) .none kV31 dc31 pm31 an31 cd31 ct31), sl31⟩) (q31 : PySem.W.codeIn K cd31 "Page.shown" = true) (k31 : PySem.W.keepIn K (.ref f31) = true)
    (a32 : PySem.W.nsIn K mainGlobals "text_of" = some (some (.ref f32))) (l32 : K.lookup f32 = some ⟨oc32, od32, .func (PySem.W.fnOf "text_of" "text_of" (defArgs s_text_of) (defBody s_text_of) (defScope s_text_of) .none kV32 dc32 pm32 an32 cd32 ct32), sl32⟩) (q32 : PySem.W.codeIn K cd32 "text_of" = true) (k32 : PySem.W.keepIn K (.ref f32) = true)
    (a33 : PySem.W.findIn K (.ref C_Page) "text" = some (some (.ref f33))) (n33 : PySem.W.isFn K (.ref f33) = true) (l33 : K.lookup f33 = some ⟨oc33, od33, .func (PySem.W.fnOf "text" "Page.text" (defArgs s_Page_text) (defBody s_Page_text) (defScope s_Page_text) .none kV33 dc33 pm33 an33 cd33 ct33), sl33⟩) (q33 : PySem.W.codeIn K cd33 "Page.text" = true) (k33 : PySem.W.keepIn K (.ref f33) = true)
    (a34 : PySem.W.findIn K (.ref C_Sheet) "signs" = some (some (.ref f34))) (n34 : PySem.W.isFn K (.ref f34) = true) (l34 : K.lookup f34 = some ⟨oc34, od34, .func (PySem.W.fnOf "signs" "Sheet.signs" (defArgs s_Sheet_signs) (defBody s_Sheet_signs) (defScope s_Sheet_signs) .none kV34 dc34 pm34 an34 cd34 ct34), sl34⟩) (q34 : PySem.W.codeIn K cd34 "Sheet.signs" = true) (k34 : PySem.W.keepIn K (.ref f34) = true)
    (a35 : PySem.W.findIn K (.ref C_Page) "signs" = some (some (.ref f35))) (n35 : PySem.W.isFn K (.ref f35) = true) (l35 : K.lookup f35 = some ⟨oc35, od35, .func (PySem.W.fnOf "signs" "Page.signs" (defArgs s_Page_signs) (defBody s_Page_signs) (defScope s_Page_signs) .none kV35 dc35 pm35 an35 cd35 ct35), sl35⟩) (q35 : PySem.W.codeIn K cd35 "Page.signs" = true) (k35 : PySem.W.keepIn K (.ref f35) = true)
    (a36 : PySem.W.findIn K (.ref C_Page) "caret" = some (some (.ref f36))) (n36 : PySem.W.isFn K (.ref f36) = true) (l36 : K.lookup f36 = some ⟨oc36, od36, .func (PySem.W.fnOf "caret" "Page.caret" (defArgs s_Page_caret) (defBody s_Page_caret) (defScope s_Page_caret) .none kV36 dc36 pm36 an36 cd36 ct36), sl36⟩) (q36 : PySem.W.codeIn K cd36 "Page.caret" = true) (k36 : PySem.W.keepIn K (.ref f36) = true)
    (a37 : PySem.W.findIn K (.ref C_Page) "covered" = some (some (.ref f37))) (n37 : PySem.W.isFn K (.ref f37) = true) (l37 : K.lookup f37 = some ⟨oc37, od37, .func (PySem.W.fnOf "covered" "Page.covered" (defArgs s_Page_covered) (defBody s_Page_covered) (defScope s_Page_covered) .none kV37 dc37 pm37 an37 cd37 ct37), sl37⟩) (q37 : PySem.W.codeIn K cd37 "Page.covered" = true) (k37 : PySem.W.keepIn K (.ref f37) = true)
    (a38 : PySem.W.findIn K (.ref C_Page) "display" = some (some (.ref f38))) (n38 : PySem.W.isFn K (.ref f38) = true) (l38 : K.lookup f38 = some ⟨oc38, od38, .func (PySem.W.fnOf "display" "Page.display" (defArgs s_Page_display) (defBody s_Page_display) (defScope s_Page_display) .none kV38 dc38 pm38 an38 cd38 ct38), sl38⟩) (q38 : PySem.W.codeIn K cd38 "Page.display" = true) (k38 : PySem.W.keepIn K (.ref f38) = true)
    (a39 : PySem.W.findIn K (.ref C_Sheet) "cells" = some (some (.ref f39))) (n39 : PySem.W.isFn K (.ref f39) = true) (l39 : K.lookup f39 = some ⟨oc39, od39, .func (PySem.W.fnOf "cells" "Sheet.cells" (defArgs s_Sheet_cells) (defBody s_Sheet_cells) (defScope s_Sheet_cells) .none kV39 dc39 pm39 an39 cd39 ct39), sl39⟩) (q39 : PySem.W.codeIn K cd39 "Sheet.cells" = true) (k39 : PySem.W.keepIn K (.ref f39) = true)
    (a40 : PySem.W.findIn K (.ref C_Page) "cells" = some (some (.ref f40))) (n40 : PySem.W.isFn K (.ref f40) = true) (l40 : K.lookup f40 = some ⟨oc40, od40, .func (PySem.W.fnOf "cells" "Page.cells" (defArgs s_Page_cells) (defBody s_Page_cells) (defScope s_Page_cells) .none kV40 dc40 pm40 an40 cd40 ct40), sl40⟩) (q40 : PySem.W.codeIn K cd40 "Page.cells" = true) (k40 : PySem.W.keepIn K (.ref f40) = true)
    (a41 : PySem.W.findIn K (.ref C_Sheet) "need_segment" = some (some (.ref f41))) (n41 : PySem.W.isFn K (.ref f41) = true) (l41 : K.lookup f41 = some ⟨oc41, od41, .func (PySem.W.fnOf "need_segment" "Sheet.need_segment" (defArgs s_Sheet_need_segment) (defBody s_Sheet_need_segment) (defScope s_Sheet_need_segment) .none kV41 dc41 pm41 an41 cd41 ct41), sl41⟩) (q41 : PySem.W.codeIn K cd41 "Sheet.need_segment" = true) (k41 : PySem.W.keepIn K (.ref f41) = true)
    (a42 : PySem.W.findIn K (.ref C_Sheet) "segment" = some (some (.ref f42))) (n42 : PySem.W.isFn K (.ref f42) = true) (l42 : K.lookup f42 = some ⟨oc42, od42, .func (PySem.W.fnOf "segment" "Sheet.segment" (defArgs s_Sheet_segment) (defBody s_Sheet_segment) (defScope s_Sheet_segment) .none kV42 dc42 pm42 an42 cd42 ct42), sl42⟩) (q42 : PySem.W.codeIn K cd42 "Sheet.segment" = true) (k42 : PySem.W.keepIn K (.ref f42) = true)
    (a43 : PySem.W.nsIn K mainGlobals "cells_of" = some (some (.ref f43))) (l43 : K.lookup f43 = some ⟨oc43, od43, .func (PySem.W.fnOf "cells_of" "cells_of" (defArgs s_cells_of) (defBody s_cells_of) (defScope s_cells_of) .none kV43 dc43 pm43 an43 cd43 ct43), sl43⟩) (q43 : PySem.W.codeIn K cd43 "cells_of" = true) (k43 : PySem.W.keepIn K (.ref f43) = true)
    (a44 : PySem.W.findIn K (.ref C_Sheet) "where" = some (some (.ref f44))) (n44 : PySem.W.isFn K (.ref f44) = true) (l44 : K.lookup f44 = some ⟨oc44, od44, .func (PySem.W.fnOf "where" "Sheet.where" (defArgs s_Sheet_where) (defBody s_Sheet_where) (defScope s_Sheet_where) .none kV44 dc44 pm44 an44 cd44 ct44), sl44⟩) (q44 : PySem.W.codeIn K cd44 "Sheet.where" = true) (k44 : PySem.W.keepIn K (.ref f44) = true)
    (a45 : PySem.W.findIn K (.ref C_Sheet) "words" = some (some (.ref f45))) (n45 : PySem.W.isFn K (.ref f45) = true) (l45 : K.lookup f45 = some ⟨oc45, od45, .func (PySem.W.fnOf "words" "Sheet.words" (defArgs s_Sheet_words) (defBody s_Sheet_words) (defScope s_Sheet_words) .none kV45 dc45 pm45 an45 cd45 ct45), sl45⟩) (q45 : PySem.W.codeIn K cd45 "Sheet.words" = true) (k45 : PySem.W.keepIn K (.ref f45) = true)
    (a46 : PySem.W.findIn K (.ref C_Page) "words" = some (some (.ref f46))) (n46 : PySem.W.isFn K (.ref f46) = true) (l46 : K.lookup f46 = some ⟨oc46, od46, .func (PySem.W.fnOf "words" "Page.words" (defArgs s_Page_words) (defBody s_Page_words) (defScope s_Page_words) .none kV46 dc46 pm46 an46 cd46 ct46), sl46⟩) (q46 : PySem.W.codeIn K cd46 "Page.words" = true) (k46 : PySem.W.keepIn K (.ref f46) = true)
    (a47 : PySem.W.findIn K (.ref C_Sheet) "steps" = some (some (.ref f47))) (n47 : PySem.W.isFn K (.ref f47) = true) (l47 : K.lookup f47 = some ⟨oc47, od47, .func (PySem.W.fnOf "steps" "Sheet.steps" (defArgs s_Sheet_steps) (defBody s_Sheet_steps) (defScope s_Sheet_steps) .none kV47 dc47 pm47 an47 cd47 ct47), sl47⟩) (q47 : PySem.W.codeIn K cd47 "Sheet.steps" = true) (k47 : PySem.W.keepIn K (.ref f47) = true)
    (a48 : PySem.W.findIn K (.ref C_Page) "steps" = some (some (.ref f48))) (n48 : PySem.W.isFn K (.ref f48) = true) (l48 : K.lookup f48 = some ⟨oc48, od48, .func (PySem.W.fnOf "steps" "Page.steps" (defArgs s_Page_steps) (defBody s_Page_steps) (defScope s_Page_steps) .none kV48 dc48 pm48 an48 cd48 ct48), sl48⟩) (q48 : PySem.W.codeIn K cd48 "Page.steps" = true) (k48 : PySem.W.keepIn K (.ref f48) = true)
    (a49 : PySem.W.nsIn K mainGlobals "_law_told_right" = some (some (.ref f49))) (l49 : K.lookup f49 = some ⟨oc49, od49, .func (PySem.W.fnOf "_law_told_right" "_law_told_right" (defArgs s__law_told_right) (defBody s__law_told_right) (defScope s__law_told_right) .none kV49 dc49 pm49 an49 cd49 ct49), sl49⟩) (q49 : PySem.W.codeIn K cd49 "_law_told_right" = true) (k49 : PySem.W.keepIn K (.ref f49) = true)
    (a50 : PySem.W.nsIn K mainGlobals "law" = some (some (.ref f50))) (l50 : K.lookup f50 = some ⟨oc50, od50, .func (PySem.W.fnOf "law" "law" (defArgs s_law) (defBody s_law) (defScope s_law) .none kV50 dc50 pm50 an50 cd50 ct50), sl50⟩) (q50 : PySem.W.codeIn K cd50 "law" = true) (k50 : PySem.W.keepIn K (.ref f50) = true)
    (z_all : PySem.W.nsIn K mainGlobals "all" = some none)
    (z_bool : PySem.W.nsIn K mainGlobals "bool" = some none)
    (z_enumerate : PySem.W.nsIn K mainGlobals "enumerate" = some none)
    (z_int : PySem.W.nsIn K mainGlobals "int" = some none)
    (z_isinstance : PySem.W.nsIn K mainGlobals "isinstance" = some none)
    (z_len : PySem.W.nsIn K mainGlobals "len" = some none)
    (z_list : PySem.W.nsIn K mainGlobals "list" = some none)
    (z_max : PySem.W.nsIn K mainGlobals "max" = some none)
    (z_min : PySem.W.nsIn K mainGlobals "min" = some none)
    (z_range : PySem.W.nsIn K mainGlobals "range" = some none)
    (z_str : PySem.W.nsIn K mainGlobals "str" = some none)
    (z_sum : PySem.W.nsIn K mainGlobals "sum" = some none)
    (z_tuple : PySem.W.nsIn K mainGlobals "tuple" = some none)
    (y_LARGE : PySem.W.nsIn K mainGlobals "LARGE" = some (some (.str "ABCDEFGHIJKLMNOPQRSTUVWXYZ" t_LARGE)))
    (y_LETTERS : PySem.W.nsIn K mainGlobals "LETTERS" = some (some (.str "abcdefghijklmnopqrstuvwxyz" t_LETTERS)))
    (y_LONGEST : PySem.W.nsIn K mainGlobals "LONGEST" = some (some (.int 12 t_LONGEST)))
    (y_MOST : PySem.W.nsIn K mainGlobals "MOST" = some (some (.int 40 t_MOST)))
    (y_NAMED : PySem.W.nsIn K mainGlobals "NAMED" = some (some (.ref g_NAMED))) (w_NAMED : K.lookup g_NAMED = some ⟨.type "tuple", o_NAMED, .seq #[.str "rub" t_NAMED0, .str "turn" t_NAMED1, .str "next" t_NAMED2, .str "back" t_NAMED3, .str "left" t_NAMED4, .str "right" t_NAMED5, .str "wider" t_NAMED6, .str "narrower" t_NAMED7, .str "plain" t_NAMED8] n_NAMED, s_NAMED⟩)
    (y_NOTHING : PySem.W.nsIn K mainGlobals "NOTHING" = some (some (.ref g_NOTHING))) (w_NOTHING : K.lookup g_NOTHING = some ⟨.type "tuple", o_NOTHING, .seq #[.ref e_NOTHING, .int 0 t_NOTHING, .str "" u_NOTHING] n_NOTHING, s_NOTHING⟩) (v_NOTHING : K.lookup e_NOTHING = some ⟨.type "tuple", q_NOTHING, .seq #[] m_NOTHING, r_NOTHING⟩)
    (y_SMALL : PySem.W.nsIn K mainGlobals "SMALL" = some (some (.str "abcdefghijklmnopqrstuvwxyz" t_SMALL)))
    (y_Full : PySem.W.nsIn K mainGlobals "Full" = some (some (.ref C_Full)))
    (y_NoCommit : PySem.W.nsIn K mainGlobals "NoCommit" = some (some (.ref C_NoCommit)))
    (y_NoKey : PySem.W.nsIn K mainGlobals "NoKey" = some (some (.ref C_NoKey)))
    (y_NoNumber : PySem.W.nsIn K mainGlobals "NoNumber" = some (some (.ref C_NoNumber)))
    (y_NoState : PySem.W.nsIn K mainGlobals "NoState" = some (some (.ref C_NoState)))
    (q1_Full : PySem.W.keepIn K (.ref C_Full) = true)
    (q2_Full : PySem.W.excIn K C_Full [.type "ValueError", .type "Exception", .type "BaseException", .type "object"] "ValueError.__new__" = true)
    (q3_Full : PySem.W.subIn K (.ref C_Full) (.type "BaseException") = some true)
    (q4_Full : PySem.W.typeIn K (.ref C_Full) = some (.type "type"))
    (q1_NoCommit : PySem.W.keepIn K (.ref C_NoCommit) = true)
    (q2_NoCommit : PySem.W.excIn K C_NoCommit [.type "ValueError", .type "Exception", .type "BaseException", .type "object"] "ValueError.__new__" = true)
    (q3_NoCommit : PySem.W.subIn K (.ref C_NoCommit) (.type "BaseException") = some true)
    (q4_NoCommit : PySem.W.typeIn K (.ref C_NoCommit) = some (.type "type"))
    (q1_NoKey : PySem.W.keepIn K (.ref C_NoKey) = true)
    (q2_NoKey : PySem.W.excIn K C_NoKey [.type "ValueError", .type "Exception", .type "BaseException", .type "object"] "ValueError.__new__" = true)
    (q3_NoKey : PySem.W.subIn K (.ref C_NoKey) (.type "BaseException") = some true)
    (q4_NoKey : PySem.W.typeIn K (.ref C_NoKey) = some (.type "type"))
    (q1_NoNumber : PySem.W.keepIn K (.ref C_NoNumber) = true)
    (q2_NoNumber : PySem.W.excIn K C_NoNumber [.type "ValueError", .type "Exception", .type "BaseException", .type "object"] "ValueError.__new__" = true)
    (q3_NoNumber : PySem.W.subIn K (.ref C_NoNumber) (.type "BaseException") = some true)
    (q4_NoNumber : PySem.W.typeIn K (.ref C_NoNumber) = some (.type "type"))
    (q1_NoState : PySem.W.keepIn K (.ref C_NoState) = true)
    (q2_NoState : PySem.W.excIn K C_NoState [.type "ValueError", .type "Exception", .type "BaseException", .type "object"] "ValueError.__new__" = true)
    (q3_NoState : PySem.W.subIn K (.ref C_NoState) (.type "BaseException") = some true)
    (q4_NoState : PySem.W.typeIn K (.ref C_NoState) = some (.type "type"))
    (r0_Full : PySem.W.findIn K (.ref C_Full) "__getattribute__" = some (some (.builtin "BaseException.__getattribute__")))
    (r1_Full : PySem.W.findIn K (.ref C_Full) "__getattr__" = some none)
    (r2_Full : PySem.W.subIn K (.ref C_Full) (.type "BaseException") = some true)
    (r3_Full : PySem.W.hasDictIn K C_Full = true)
    (r4_Full : PySem.W.findIn K (.ref C_Full) "__class__" = some (some (.builtin "object.__class__")))
    (r5_Full : PySem.W.specialIn K (.builtin "object.__class__") "__get__" = some (some (.builtin "getset_descriptor.__get__")))
    (r6_Full : PySem.W.takesIn K (.builtin "object.__class__") = some true)
    (r7_Full : PySem.W.mroIn K C_Full (.type "object") = some true)
    (r0_NoCommit : PySem.W.findIn K (.ref C_NoCommit) "__getattribute__" = some (some (.builtin "BaseException.__getattribute__")))
    (r1_NoCommit : PySem.W.findIn K (.ref C_NoCommit) "__getattr__" = some none)
    (r2_NoCommit : PySem.W.subIn K (.ref C_NoCommit) (.type "BaseException") = some true)
    (r3_NoCommit : PySem.W.hasDictIn K C_NoCommit = true)
    (r4_NoCommit : PySem.W.findIn K (.ref C_NoCommit) "__class__" = some (some (.builtin "object.__class__")))
    (r5_NoCommit : PySem.W.specialIn K (.builtin "object.__class__") "__get__" = some (some (.builtin "getset_descriptor.__get__")))
    (r6_NoCommit : PySem.W.takesIn K (.builtin "object.__class__") = some true)
    (r7_NoCommit : PySem.W.mroIn K C_NoCommit (.type "object") = some true)
    (r0_NoKey : PySem.W.findIn K (.ref C_NoKey) "__getattribute__" = some (some (.builtin "BaseException.__getattribute__")))
    (r1_NoKey : PySem.W.findIn K (.ref C_NoKey) "__getattr__" = some none)
    (r2_NoKey : PySem.W.subIn K (.ref C_NoKey) (.type "BaseException") = some true)
    (r3_NoKey : PySem.W.hasDictIn K C_NoKey = true)
    (r4_NoKey : PySem.W.findIn K (.ref C_NoKey) "__class__" = some (some (.builtin "object.__class__")))
    (r5_NoKey : PySem.W.specialIn K (.builtin "object.__class__") "__get__" = some (some (.builtin "getset_descriptor.__get__")))
    (r6_NoKey : PySem.W.takesIn K (.builtin "object.__class__") = some true)
    (r7_NoKey : PySem.W.mroIn K C_NoKey (.type "object") = some true)
    (r0_NoNumber : PySem.W.findIn K (.ref C_NoNumber) "__getattribute__" = some (some (.builtin "BaseException.__getattribute__")))
    (r1_NoNumber : PySem.W.findIn K (.ref C_NoNumber) "__getattr__" = some none)
    (r2_NoNumber : PySem.W.subIn K (.ref C_NoNumber) (.type "BaseException") = some true)
    (r3_NoNumber : PySem.W.hasDictIn K C_NoNumber = true)
    (r4_NoNumber : PySem.W.findIn K (.ref C_NoNumber) "__class__" = some (some (.builtin "object.__class__")))
    (r5_NoNumber : PySem.W.specialIn K (.builtin "object.__class__") "__get__" = some (some (.builtin "getset_descriptor.__get__")))
    (r6_NoNumber : PySem.W.takesIn K (.builtin "object.__class__") = some true)
    (r7_NoNumber : PySem.W.mroIn K C_NoNumber (.type "object") = some true)
    (r0_NoState : PySem.W.findIn K (.ref C_NoState) "__getattribute__" = some (some (.builtin "BaseException.__getattribute__")))
    (r1_NoState : PySem.W.findIn K (.ref C_NoState) "__getattr__" = some none)
    (r2_NoState : PySem.W.subIn K (.ref C_NoState) (.type "BaseException") = some true)
    (r3_NoState : PySem.W.hasDictIn K C_NoState = true)
    (r4_NoState : PySem.W.findIn K (.ref C_NoState) "__class__" = some (some (.builtin "object.__class__")))
    (r5_NoState : PySem.W.specialIn K (.builtin "object.__class__") "__get__" = some (some (.builtin "getset_descriptor.__get__")))
    (r6_NoState : PySem.W.takesIn K (.builtin "object.__class__") = some true)
    (r7_NoState : PySem.W.mroIn K C_NoState (.type "object") = some true)
    (w_Full_Full : PySem.W.exmOne K (.ref C_Full) (.ref C_Full) = some true)
    (w_Full_NoCommit : PySem.W.exmOne K (.ref C_NoCommit) (.ref C_Full) = some false)
    (w_Full_NoKey : PySem.W.exmOne K (.ref C_NoKey) (.ref C_Full) = some false)
    (w_Full_NoNumber : PySem.W.exmOne K (.ref C_NoNumber) (.ref C_Full) = some false)
    (w_Full_NoState : PySem.W.exmOne K (.ref C_NoState) (.ref C_Full) = some false) :
    ∃ fd : FuncData, (∀ (s : Shared) (v : Value), BindsTo s fd ⟨[v], []⟩ [("script", v)]) ∧ ∀ base : Heap, K.In base → base.Ns mainGlobals mg → TabsB K mg base → FnD P w K mg base CX0 10 fa fd ["script"] spLaw := by
  have cl_Page : ClsN K "Page" C_Page := ⟨y_Page, ⟨p1_Page, p2_Page, p3_Page, p4_Page⟩⟩
  have cl_Site : ClsN K "Site" C_Site := ⟨y_Site, ⟨p1_Site, p2_Site, p3_Site, p4_Site⟩⟩
  have cl_Sheet : ClsN K "Sheet" C_Sheet := ⟨y_Sheet, ⟨p1_Sheet, p2_Sheet, p3_Sheet, p4_Sheet⟩⟩
  have hit_ok_Full : HitX K mg "Full" (.ref C_Full) hit_Full := ⟨PySem.W.mg_of X G y_Full, fun y r cls h hm => by
      unfold hit_Full at h
      split at h
      · rename_i e; subst e; cases h; exact ⟨by rw [PySem.W.mg_of X G y_Full] at hm; cases hm; exact y_Full, by rw [PySem.W.mg_of X G y_Full] at hm; cases hm; exact w_Full_Full⟩
      split at h
      · rename_i e; subst e; cases h; exact ⟨by rw [PySem.W.mg_of X G y_NoCommit] at hm; cases hm; exact y_NoCommit, by rw [PySem.W.mg_of X G y_NoCommit] at hm; cases hm; exact w_Full_NoCommit⟩
      split at h
      · rename_i e; subst e; cases h; exact ⟨by rw [PySem.W.mg_of X G y_NoKey] at hm; cases hm; exact y_NoKey, by rw [PySem.W.mg_of X G y_NoKey] at hm; cases hm; exact w_Full_NoKey⟩
      split at h
      · rename_i e; subst e; cases h; exact ⟨by rw [PySem.W.mg_of X G y_NoNumber] at hm; cases hm; exact y_NoNumber, by rw [PySem.W.mg_of X G y_NoNumber] at hm; cases hm; exact w_Full_NoNumber⟩
      split at h
      · rename_i e; subst e; cases h; exact ⟨by rw [PySem.W.mg_of X G y_NoState] at hm; cases hm; exact y_NoState, by rw [PySem.W.mg_of X G y_NoState] at hm; cases hm; exact w_Full_NoState⟩
      cases h⟩
  have T : Tx K mg := ⟨⟨_, PySem.W.mg_of X G y_Full, q1_Full, q2_Full, q3_Full, q4_Full⟩, ⟨_, PySem.W.mg_of X G y_NoCommit, q1_NoCommit, q2_NoCommit, q3_NoCommit, q4_NoCommit⟩, ⟨_, PySem.W.mg_of X G y_NoKey, q1_NoKey, q2_NoKey, q3_NoKey, q4_NoKey⟩, ⟨_, PySem.W.mg_of X G y_NoNumber, q1_NoNumber, q2_NoNumber, q3_NoNumber, q4_NoNumber⟩, ⟨_, PySem.W.mg_of X G y_NoState, q1_NoState, q2_NoState, q3_NoState, q4_NoState⟩, ⟨_, cl_Page, g_Page_answered⟩, ⟨_, cl_Page, g_Page_begun⟩, ⟨_, cl_Page, g_Page_latest⟩, ⟨_, cl_Page, g_Page_number⟩, ⟨_, cl_Page, g_Page_pressed⟩, ⟨_, cl_Page, g_Page_site⟩, ⟨_, cl_Sheet, g_Sheet_cell_row⟩, ⟨_, cl_Sheet, g_Sheet_later⟩, ⟨_, cl_Sheet, g_Sheet_pair_rows⟩, ⟨_, cl_Sheet, g_Sheet_past⟩, ⟨_, cl_Sheet, g_Sheet_upright⟩, ⟨_, cl_Site, g_Site_caret_at⟩, ⟨_, cl_Site, g_Site_covered_many⟩, ⟨_, cl_Site, g_Site_sheet⟩, ⟨_, hit_ok_Full⟩, PySem.W.mg_none_of X G z_all, PySem.W.mg_none_of X G z_bool, PySem.W.mg_none_of X G z_enumerate, PySem.W.mg_none_of X G z_int, PySem.W.mg_none_of X G z_isinstance, PySem.W.mg_none_of X G z_len, PySem.W.mg_none_of X G z_list, PySem.W.mg_none_of X G z_max, PySem.W.mg_none_of X G z_min, PySem.W.mg_none_of X G z_range, PySem.W.mg_none_of X G z_str, PySem.W.mg_none_of X G z_sum, PySem.W.mg_none_of X G z_tuple, ⟨_, PySem.W.mg_of X G y_LARGE⟩, ⟨_, PySem.W.mg_of X G y_LETTERS⟩, ⟨_, PySem.W.mg_of X G y_LONGEST⟩, ⟨_, PySem.W.mg_of X G y_MOST⟩, wrT_mk (PySem.W.mg_of X G y_NAMED) w_NAMED Dl.ll (by first | exact .cons ⟨_, rfl⟩ (.cons ⟨_, rfl⟩ (.cons ⟨_, rfl⟩ (.cons ⟨_, rfl⟩ (.cons ⟨_, rfl⟩ (.cons ⟨_, rfl⟩ (.cons ⟨_, rfl⟩ (.cons ⟨_, rfl⟩ (.cons ⟨_, rfl⟩ (.nil))))))))) | simp) (by decide +kernel), ⟨_, _, _, _, _, _, _, _, _, _, PySem.W.mg_of X G y_NOTHING, w_NOTHING, v_NOTHING⟩, ⟨_, PySem.W.mg_of X G y_SMALL⟩⟩
  have F1 := fun_mk (st := s__law_bag) l1 q1 k1
  have at__law_bag : At K mg "_law_bag" s__law_bag ["script", "k"] := ⟨_, _, F1, PySem.W.mg_of X G a1, F1.binds (ps := ["script", "k"]) fun _ _ _ _ _ _ us hl => match us, hl with | [_, _], _ => rfl⟩
  have F2 := fun_mk (st := s_Sheet___init__) l2 q2 k2
  have at_Sheet___init__ : AtI K mg "Sheet" "Sheet.__init__" s_Sheet___init__ ["self"] := ⟨_, _, _, cl_Sheet, PySem.W.mg_of X G y_Sheet, ⟨p5_Sheet, a2, n2, p6_Sheet⟩, F2, F2.binds (ps := ["self"]) fun _ _ _ _ _ _ us hl => match us, hl with | [_], _ => rfl⟩
  have F3 := fun_mk (st := s_Site___init__) l3 q3 k3
  have at_Site___init__ : AtI K mg "Site" "Site.__init__" s_Site___init__ ["self"] := ⟨_, _, _, cl_Site, PySem.W.mg_of X G y_Site, ⟨p5_Site, a3, n3, p6_Site⟩, F3, F3.binds (ps := ["self"]) fun _ _ _ _ _ _ us hl => match us, hl with | [_], _ => rfl⟩
  have F4 := fun_mk (st := s_Page___init__) l4 q4 k4
  have at_Page___init__ : AtI K mg "Page" "Page.__init__" s_Page___init__ ["self"] := ⟨_, _, _, cl_Page, PySem.W.mg_of X G y_Page, ⟨p5_Page, a4, n4, p6_Page⟩, F4, F4.binds (ps := ["self"]) fun _ _ _ _ _ _ us hl => match us, hl with | [_], _ => rfl⟩
  have F5 := fun_mk (st := s__law_take) l5 q5 k5
  have at__law_take : At K mg "_law_take" s__law_take ["bag", "many"] := ⟨_, _, F5, PySem.W.mg_of X G a5, F5.binds (ps := ["bag", "many"]) fun _ _ _ _ _ _ us hl => match us, hl with | [_, _], _ => rfl⟩
  have F6 := fun_mk (st := s__law_word) l6 q6 k6
  have at__law_word : At K mg "_law_word" s__law_word ["bag", "most"] := ⟨_, _, F6, PySem.W.mg_of X G a6, F6.binds (ps := ["bag", "most"]) fun _ _ _ _ _ _ us hl => match us, hl with | [_, _], _ => rfl⟩
  have F7 := fun_mk (st := s__law_key) l7 q7 k7
  have at__law_key : At K mg "_law_key" s__law_key ["bag"] := ⟨_, _, F7, PySem.W.mg_of X G a7, F7.binds (ps := ["bag"]) fun _ _ _ _ _ _ us hl => match us, hl with | [_], _ => rfl⟩
  have F8 := fun_mk (st := s_is_key) l8 q8 k8
  have at_is_key : At K mg "is_key" s_is_key ["thing"] := ⟨_, _, F8, PySem.W.mg_of X G a8, F8.binds (ps := ["thing"]) fun _ _ _ _ _ _ us hl => match us, hl with | [_], _ => rfl⟩
  have F9 := fun_mk (st := s_need_key) l9 q9 k9
  have at_need_key : At K mg "need_key" s_need_key ["thing"] := ⟨_, _, F9, PySem.W.mg_of X G a9, F9.binds (ps := ["thing"]) fun _ _ _ _ _ _ us hl => match us, hl with | [_], _ => rfl⟩
  have F10 := fun_mk (st := s_Page_begin) l10 q10 k10
  have at_Page_begin : AtM K "Page" "begin" "Page.begin" s_Page_begin ["self", "state"] := ⟨_, _, _, cl_Page, ⟨a10, n10, k10⟩, F10, F10.binds (ps := ["self", "state"]) fun _ _ _ _ _ _ us hl => match us, hl with | [_, _], _ => rfl⟩
  have F11 := fun_mk (st := s_is_small) l11 q11 k11
  have at_is_small : At K mg "is_small" s_is_small ["thing"] := ⟨_, _, F11, PySem.W.mg_of X G a11, F11.binds (ps := ["thing"]) fun _ _ _ _ _ _ us hl => match us, hl with | [_], _ => rfl⟩
  have F12 := fun_mk (st := s_is_reading) l12 q12 k12
  have at_is_reading : At K mg "is_reading" s_is_reading ["thing"] := ⟨_, _, F12, PySem.W.mg_of X G a12, F12.binds (ps := ["thing"]) fun _ _ _ _ _ _ us hl => match us, hl with | [_], _ => rfl⟩
  have F13 := fun_mk (st := s_is_writing) l13 q13 k13
  have at_is_writing : At K mg "is_writing" s_is_writing ["thing"] := ⟨_, _, F13, PySem.W.mg_of X G a13, F13.binds (ps := ["thing"]) fun _ _ _ _ _ _ us hl => match us, hl with | [_], _ => rfl⟩
  have F14 := fun_mk (st := s_is_segment) l14 q14 k14
  have at_is_segment : At K mg "is_segment" s_is_segment ["thing"] := ⟨_, _, F14, PySem.W.mg_of X G a14, F14.binds (ps := ["thing"]) fun _ _ _ _ _ _ us hl => match us, hl with | [_], _ => rfl⟩
  have F15 := fun_mk (st := s_is_count) l15 q15 k15
  have at_is_count : At K mg "is_count" s_is_count ["thing"] := ⟨_, _, F15, PySem.W.mg_of X G a15, F15.binds (ps := ["thing"]) fun _ _ _ _ _ _ us hl => match us, hl with | [_], _ => rfl⟩
  have F16 := fun_mk (st := s_is_state) l16 q16 k16
  have at_is_state : At K mg "is_state" s_is_state ["thing"] := ⟨_, _, F16, PySem.W.mg_of X G a16, F16.binds (ps := ["thing"]) fun _ _ _ _ _ _ us hl => match us, hl with | [_], _ => rfl⟩
  have F17 := fun_mk (st := s_need_state) l17 q17 k17
  have at_need_state : At K mg "need_state" s_need_state ["thing"] := ⟨_, _, F17, PySem.W.mg_of X G a17, F17.binds (ps := ["thing"]) fun _ _ _ _ _ _ us hl => match us, hl with | [_], _ => rfl⟩
  have F18 := fun_mk (st := s_reading_of) l18 q18 k18
  have at_reading_of : At K mg "reading_of" s_reading_of ["state"] := ⟨_, _, F18, PySem.W.mg_of X G a18, F18.binds (ps := ["state"]) fun _ _ _ _ _ _ us hl => match us, hl with | [_], _ => rfl⟩
  have F19 := fun_mk (st := s_letters_of) l19 q19 k19
  have at_letters_of : At K mg "letters_of" s_letters_of ["keys"] := ⟨_, _, F19, PySem.W.mg_of X G a19, F19.binds (ps := ["keys"]) fun _ _ _ _ _ _ us hl => match us, hl with | [_], _ => rfl⟩
  have F20 := fun_mk (st := s_Page_since) l20 q20 k20
  have at_Page_since : AtM K "Page" "since" "Page.since" s_Page_since ["self"] := ⟨_, _, _, cl_Page, ⟨a20, n20, k20⟩, F20, F20.binds (ps := ["self"]) fun _ _ _ _ _ _ us hl => match us, hl with | [_], _ => rfl⟩
  have F21 := fun_mk (st := s_Page_key) l21 q21 k21
  have at_Page_key : AtM K "Page" "key" "Page.key" s_Page_key ["self", "key"] := ⟨_, _, _, cl_Page, ⟨a21, n21, k21⟩, F21, F21.binds (ps := ["self", "key"]) fun _ _ _ _ _ _ us hl => match us, hl with | [_, _], _ => rfl⟩
  have F22 := fun_mk (st := s__law_reading) l22 q22 k22
  have at__law_reading : At K mg "_law_reading" s__law_reading ["state"] := ⟨_, _, F22, PySem.W.mg_of X G a22, F22.binds (ps := ["state"]) fun _ _ _ _ _ _ us hl => match us, hl with | [_], _ => rfl⟩
  have F23 := fun_mk (st := s__law_since) l23 q23 k23
  have at__law_since : At K mg "_law_since" s__law_since ["pressed", "answered"] := ⟨_, _, F23, PySem.W.mg_of X G a23, F23.binds (ps := ["pressed", "answered"]) fun _ _ _ _ _ _ us hl => match us, hl with | [_, _], _ => rfl⟩
  have F24 := fun_mk (st := s__law_key_right) l24 q24 k24
  have at__law_key_right : At K mg "_law_key_right" s__law_key_right ["page", "pressed", "answered", "state", "key"] := ⟨_, _, F24, PySem.W.mg_of X G a24, F24.binds (ps := ["page", "pressed", "answered", "state", "key"]) fun _ _ _ _ _ _ us hl => match us, hl with | [_, _, _, _, _], _ => rfl⟩
  have F25 := fun_mk (st := s__law_state) l25 q25 k25
  have at__law_state : At K mg "_law_state" s__law_state ["bag", "book"] := ⟨_, _, F25, PySem.W.mg_of X G a25, F25.binds (ps := ["bag", "book"]) fun _ _ _ _ _ _ us hl => match us, hl with | [_, _], _ => rfl⟩
  have F26 := fun_mk (st := s__law_shown) l26 q26 k26
  have at__law_shown : At K mg "_law_shown" s__law_shown ["bag", "pressed", "most"] := ⟨_, _, F26, PySem.W.mg_of X G a26, F26.binds (ps := ["bag", "pressed", "most"]) fun _ _ _ _ _ _ us hl => match us, hl with | [_, _, _], _ => rfl⟩
  have F27 := fun_mk (st := s_is_letter) l27 q27 k27
  have at_is_letter : At K mg "is_letter" s_is_letter ["thing", "word", "many"] := ⟨_, _, F27, PySem.W.mg_of X G a27, F27.binds (ps := ["thing", "word", "many"]) fun _ _ _ _ _ _ us hl => match us, hl with | [_, _, _], _ => rfl⟩
  have F28 := fun_mk (st := s_Page_see) l28 q28 k28
  have at_Page_see : AtM K "Page" "see" "Page.see" s_Page_see ["self", "number", "keys", "state"] := ⟨_, _, _, cl_Page, ⟨a28, n28, k28⟩, F28, F28.binds (ps := ["self", "number", "keys", "state"]) fun _ _ _ _ _ _ us hl => match us, hl with | [_, _, _, _], _ => rfl⟩
  have F29 := fun_mk (st := s_Page_hear) l29 q29 k29
  have at_Page_hear : AtM K "Page" "hear" "Page.hear" s_Page_hear ["self", "letter"] := ⟨_, _, _, cl_Page, ⟨a29, n29, k29⟩, F29, F29.binds (ps := ["self", "letter"]) fun _ _ _ _ _ _ us hl => match us, hl with | [_, _], _ => rfl⟩
  have F30 := fun_mk (st := s_Page_composed) l30 q30 k30
  have at_Page_composed : AtM K "Page" "composed" "Page.composed" s_Page_composed ["self"] := ⟨_, _, _, cl_Page, ⟨a30, n30, k30⟩, F30, F30.binds (ps := ["self"]) fun _ _ _ _ _ _ us hl => match us, hl with | [_], _ => rfl⟩
  have F31 := fun_mk (st := s_Page_shown) l31 q31 k31
  have at_Page_shown : AtM K "Page" "shown" "Page.shown" s_Page_shown ["self"] := ⟨_, _, _, cl_Page, ⟨a31, n31, k31⟩, F31, F31.binds (ps := ["self"]) fun _ _ _ _ _ _ us hl => match us, hl with | [_], _ => rfl⟩
  have F32 := fun_mk (st := s_text_of) l32 q32 k32
  have at_text_of : At K mg "text_of" s_text_of ["state"] := ⟨_, _, F32, PySem.W.mg_of X G a32, F32.binds (ps := ["state"]) fun _ _ _ _ _ _ us hl => match us, hl with | [_], _ => rfl⟩
  have F33 := fun_mk (st := s_Page_text) l33 q33 k33
  have at_Page_text : AtM K "Page" "text" "Page.text" s_Page_text ["self"] := ⟨_, _, _, cl_Page, ⟨a33, n33, k33⟩, F33, F33.binds (ps := ["self"]) fun _ _ _ _ _ _ us hl => match us, hl with | [_], _ => rfl⟩
  have F34 := fun_mk (st := s_Sheet_signs) l34 q34 k34
  have at_Sheet_signs : AtM K "Sheet" "signs" "Sheet.signs" s_Sheet_signs ["self"] := ⟨_, _, _, cl_Sheet, ⟨a34, n34, k34⟩, F34, F34.binds (ps := ["self"]) fun _ _ _ _ _ _ us hl => match us, hl with | [_], _ => rfl⟩
  have F35 := fun_mk (st := s_Page_signs) l35 q35 k35
  have at_Page_signs : AtM K "Page" "signs" "Page.signs" s_Page_signs ["self"] := ⟨_, _, _, cl_Page, ⟨a35, n35, k35⟩, F35, F35.binds (ps := ["self"]) fun _ _ _ _ _ _ us hl => match us, hl with | [_], _ => rfl⟩
  have F36 := fun_mk (st := s_Page_caret) l36 q36 k36
  have at_Page_caret : AtM K "Page" "caret" "Page.caret" s_Page_caret ["self"] := ⟨_, _, _, cl_Page, ⟨a36, n36, k36⟩, F36, F36.binds (ps := ["self"]) fun _ _ _ _ _ _ us hl => match us, hl with | [_], _ => rfl⟩
  have F37 := fun_mk (st := s_Page_covered) l37 q37 k37
  have at_Page_covered : AtM K "Page" "covered" "Page.covered" s_Page_covered ["self"] := ⟨_, _, _, cl_Page, ⟨a37, n37, k37⟩, F37, F37.binds (ps := ["self"]) fun _ _ _ _ _ _ us hl => match us, hl with | [_], _ => rfl⟩
  have F38 := fun_mk (st := s_Page_display) l38 q38 k38
  have at_Page_display : AtM K "Page" "display" "Page.display" s_Page_display ["self"] := ⟨_, _, _, cl_Page, ⟨a38, n38, k38⟩, F38, F38.binds (ps := ["self"]) fun _ _ _ _ _ _ us hl => match us, hl with | [_], _ => rfl⟩
  have F39 := fun_mk (st := s_Sheet_cells) l39 q39 k39
  have at_Sheet_cells : AtM K "Sheet" "cells" "Sheet.cells" s_Sheet_cells ["self"] := ⟨_, _, _, cl_Sheet, ⟨a39, n39, k39⟩, F39, F39.binds (ps := ["self"]) fun _ _ _ _ _ _ us hl => match us, hl with | [_], _ => rfl⟩
  have F40 := fun_mk (st := s_Page_cells) l40 q40 k40
  have at_Page_cells : AtM K "Page" "cells" "Page.cells" s_Page_cells ["self"] := ⟨_, _, _, cl_Page, ⟨a40, n40, k40⟩, F40, F40.binds (ps := ["self"]) fun _ _ _ _ _ _ us hl => match us, hl with | [_], _ => rfl⟩
  have F41 := fun_mk (st := s_Sheet_need_segment) l41 q41 k41
  have at_Sheet_need_segment : AtM K "Sheet" "need_segment" "Sheet.need_segment" s_Sheet_need_segment ["self", "commit", "segment"] := ⟨_, _, _, cl_Sheet, ⟨a41, n41, k41⟩, F41, F41.binds (ps := ["self", "commit", "segment"]) fun _ _ _ _ _ _ us hl => match us, hl with | [_, _, _], _ => rfl⟩
  have F42 := fun_mk (st := s_Sheet_segment) l42 q42 k42
  have at_Sheet_segment : AtM K "Sheet" "segment" "Sheet.segment" s_Sheet_segment ["self", "commit", "segment"] := ⟨_, _, _, cl_Sheet, ⟨a42, n42, k42⟩, F42, F42.binds (ps := ["self", "commit", "segment"]) fun _ _ _ _ _ _ us hl => match us, hl with | [_, _, _], _ => rfl⟩
  have F43 := fun_mk (st := s_cells_of) l43 q43 k43
  have at_cells_of : At K mg "cells_of" s_cells_of ["commit", "segment", "writing"] := ⟨_, _, F43, PySem.W.mg_of X G a43, F43.binds (ps := ["commit", "segment", "writing"]) fun _ _ _ _ _ _ us hl => match us, hl with | [_, _, _], _ => rfl⟩
  have F44 := fun_mk (st := s_Sheet_where) l44 q44 k44
  have at_Sheet_where : AtM K "Sheet" "where" "Sheet.where" s_Sheet_where ["self", "commit", "segment"] := ⟨_, _, _, cl_Sheet, ⟨a44, n44, k44⟩, F44, F44.binds (ps := ["self", "commit", "segment"]) fun _ _ _ _ _ _ us hl => match us, hl with | [_, _, _], _ => rfl⟩
  have F45 := fun_mk (st := s_Sheet_words) l45 q45 k45
  have at_Sheet_words : AtM K "Sheet" "words" "Sheet.words" s_Sheet_words ["self"] := ⟨_, _, _, cl_Sheet, ⟨a45, n45, k45⟩, F45, F45.binds (ps := ["self"]) fun _ _ _ _ _ _ us hl => match us, hl with | [_], _ => rfl⟩
  have F46 := fun_mk (st := s_Page_words) l46 q46 k46
  have at_Page_words : AtM K "Page" "words" "Page.words" s_Page_words ["self"] := ⟨_, _, _, cl_Page, ⟨a46, n46, k46⟩, F46, F46.binds (ps := ["self"]) fun _ _ _ _ _ _ us hl => match us, hl with | [_], _ => rfl⟩
  have F47 := fun_mk (st := s_Sheet_steps) l47 q47 k47
  have at_Sheet_steps : AtM K "Sheet" "steps" "Sheet.steps" s_Sheet_steps ["self"] := ⟨_, _, _, cl_Sheet, ⟨a47, n47, k47⟩, F47, F47.binds (ps := ["self"]) fun _ _ _ _ _ _ us hl => match us, hl with | [_], _ => rfl⟩
  have F48 := fun_mk (st := s_Page_steps) l48 q48 k48
  have at_Page_steps : AtM K "Page" "steps" "Page.steps" s_Page_steps ["self"] := ⟨_, _, _, cl_Page, ⟨a48, n48, k48⟩, F48, F48.binds (ps := ["self"]) fun _ _ _ _ _ _ us hl => match us, hl with | [_], _ => rfl⟩
  have F49 := fun_mk (st := s__law_told_right) l49 q49 k49
  have at__law_told_right : At K mg "_law_told_right" s__law_told_right ["page", "pressed", "answered", "state"] := ⟨_, _, F49, PySem.W.mg_of X G a49, F49.binds (ps := ["page", "pressed", "answered", "state"]) fun _ _ _ _ _ _ us hl => match us, hl with | [_, _, _, _], _ => rfl⟩
  have F50 := fun_mk (st := s_law) l50 q50 k50
  have at_law : At K mg "law" s_law ["script"] := ⟨_, _, F50, PySem.W.mg_of X G a50, F50.binds (ps := ["script"]) fun _ _ _ _ _ _ us hl => match us, hl with | [_], _ => rfl⟩
  have e := hfa.symm.trans (PySem.W.mg_of X G a50)
  cases e
  refine ⟨PySem.W.fnOf "law" "law" (defArgs s_law) (defBody s_law) (defScope s_law) .none kV50 dc50 pm50 an50 cd50 ct50, fun s v => .of_eq rfl, fun base _ _ TB => ?_⟩
  have c__law_bag : Kn P w K mg base "_law_bag" 1 ["script", "k"] sp__law_bag := kn__law_bag T at__law_bag
  have c_Sheet___init__ : KnI P w K mg base "Sheet" 1 ["self"] sp_Sheet___init__ := kn_Sheet___init__ T at_Sheet___init__
  have c_Site___init__ : KnI P w K mg base "Site" 3 ["self"] sp_Site___init__ := kn_Site___init__ T at_Site___init__ c_Sheet___init__
  have c_Page___init__ : KnI P w K mg base "Page" 5 ["self"] sp_Page___init__ := kn_Page___init__ T at_Page___init__ c_Site___init__
  have c__law_take : Kn P w K mg base "_law_take" 1 ["bag", "many"] sp__law_take := kn__law_take T at__law_take
  have c__law_word : Kn P w K mg base "_law_word" 2 ["bag", "most"] sp__law_word := kn__law_word T at__law_word c__law_take
  have c__law_key : Kn P w K mg base "_law_key" 3 ["bag"] sp__law_key := kn__law_key T at__law_key c__law_take c__law_word
  have c_is_key : Kn P w K mg base "is_key" 1 ["thing"] sp_is_key := kn_is_key T at_is_key
  have c_need_key : KnX P w K mg base "need_key" 2 ["thing"] sp_need_key := kn_need_key T at_need_key c_is_key
  have c_Page_begin : KnM P w K mg base CX0 "Page" "begin" 1 ["self", "state"] sp_Page_begin := kn_Page_begin T at_Page_begin
  have c_is_small : Kn P w K mg base "is_small" 1 ["thing"] sp_is_small := kn_is_small T at_is_small
  have c_is_reading : Kn P w K mg base "is_reading" 2 ["thing"] sp_is_reading := kn_is_reading T at_is_reading c_is_small
  have c_is_writing : Kn P w K mg base "is_writing" 1 ["thing"] sp_is_writing := kn_is_writing T at_is_writing
  have c_is_segment : Kn P w K mg base "is_segment" 3 ["thing"] sp_is_segment := kn_is_segment T at_is_segment c_is_reading c_is_writing
  have c_is_count : Kn P w K mg base "is_count" 1 ["thing"] sp_is_count := kn_is_count T at_is_count
  have c_is_state : Kn P w K mg base "is_state" 4 ["thing"] sp_is_state := kn_is_state T at_is_state c_is_segment c_is_count c_is_small
  have c_need_state : KnX P w K mg base "need_state" 5 ["thing"] sp_need_state := kn_need_state T at_need_state c_is_state
  have c_reading_of : KnX P w K mg base "reading_of" 6 ["state"] sp_reading_of := kn_reading_of T at_reading_of c_need_state
  have c_letters_of : Kn P w K mg base "letters_of" 1 ["keys"] sp_letters_of := kn_letters_of T at_letters_of
  have c_Page_since : KnM P w K mg base CX0 "Page" "since" 2 ["self"] sp_Page_since := kn_Page_since T at_Page_since c_letters_of
  have c_Page_key : KnM P w K mg base (L2.CX P w) "Page" "key" 7 ["self", "key"] sp_Page_key := kn_Page_key T at_Page_key c_need_key c_Page_begin c_reading_of c_Page_since
  have c__law_reading : Kn P w K mg base "_law_reading" 1 ["state"] sp__law_reading := kn__law_reading T at__law_reading
  have c__law_since : Kn P w K mg base "_law_since" 1 ["pressed", "answered"] sp__law_since := kn__law_since T at__law_since
  have c__law_key_right : Kn P w K mg base "_law_key_right" 8 ["page", "pressed", "answered", "state", "key"] sp__law_key_right := kn__law_key_right T at__law_key_right c_Page_key c__law_reading c__law_since
  have c__law_state : Kn P w K mg base "_law_state" 3 ["bag", "book"] sp__law_state := kn__law_state T at__law_state c__law_take c__law_word
  have c__law_shown : Kn P w K mg base "_law_shown" 4 ["bag", "pressed", "most"] sp__law_shown := kn__law_shown T at__law_shown c__law_state c__law_reading
  have c_is_letter : Kn P w K mg base "is_letter" 1 ["thing", "word", "many"] sp_is_letter := kn_is_letter T at_is_letter
  have c_Page_see : KnM P w K mg base (L2.CX P w) "Page" "see" 7 ["self", "number", "keys", "state"] sp_Page_see := kn_Page_see T at_Page_see c_reading_of c_letters_of
  have c_Page_hear : KnM P w K mg base (L2.CX P w) "Page" "hear" 8 ["self", "letter"] sp_Page_hear := kn_Page_hear T at_Page_hear c_is_letter c_is_count c_is_state c_Page_see
  have c_Page_composed : KnM P w K mg base CX0 "Page" "composed" 1 ["self"] sp_Page_composed := kn_Page_composed T at_Page_composed
  have c_Page_shown : KnM P w K mg base CX0 "Page" "shown" 1 ["self"] sp_Page_shown := kn_Page_shown T at_Page_shown
  have c_text_of : KnX P w K mg base "text_of" 6 ["state"] sp_text_of := kn_text_of T at_text_of c_need_state
  have c_Page_text : KnM P w K mg base CX0 "Page" "text" 7 ["self"] sp_Page_text := kn_Page_text T at_Page_text c_text_of c_Page_since
  have c_Sheet_signs : KnM P w K mg base CX0 "Sheet" "signs" 1 ["self"] sp_Sheet_signs := kn_Sheet_signs T at_Sheet_signs
  have c_Page_signs : KnM P w K mg base CX0 "Page" "signs" 2 ["self"] sp_Page_signs := kn_Page_signs T at_Page_signs c_Sheet_signs
  have c_Page_caret : KnM P w K mg base CX0 "Page" "caret" 1 ["self"] sp_Page_caret := kn_Page_caret T at_Page_caret
  have c_Page_covered : KnM P w K mg base CX0 "Page" "covered" 1 ["self"] sp_Page_covered := kn_Page_covered T at_Page_covered
  have c_Page_display : KnM P w K mg base CX0 "Page" "display" 8 ["self"] sp_Page_display := kn_Page_display T at_Page_display c_Page_signs c_Page_caret c_Page_text c_Page_covered
  have c_Sheet_cells : KnM P w K mg base CX0 "Sheet" "cells" 1 ["self"] sp_Sheet_cells := kn_Sheet_cells T at_Sheet_cells
  have c_Page_cells : KnM P w K mg base CX0 "Page" "cells" 2 ["self"] sp_Page_cells := kn_Page_cells T at_Page_cells c_Sheet_cells
  have c_Sheet_need_segment : KnM P w K mg base (L2.CX P w) "Sheet" "need_segment" 2 ["self", "commit", "segment"] sp_Sheet_need_segment := kn_Sheet_need_segment T at_Sheet_need_segment c_is_count
  have c_Sheet_segment : KnM P w K mg base (L2.CX P w) "Sheet" "segment" 3 ["self", "commit", "segment"] sp_Sheet_segment := kn_Sheet_segment T at_Sheet_segment c_Sheet_need_segment
  have c_cells_of : Kn P w K mg base "cells_of" 1 ["commit", "segment", "writing"] sp_cells_of := kn_cells_of T at_cells_of
  have c_Sheet_where : KnM P w K mg base (L2.CX P w) "Sheet" "where" 4 ["self", "commit", "segment"] sp_Sheet_where := kn_Sheet_where T at_Sheet_where c_Sheet_segment c_cells_of
  have c_Sheet_words : KnM P w K mg base CX0 "Sheet" "words" 5 ["self"] sp_Sheet_words := kn_Sheet_words T at_Sheet_words c_Sheet_where
  have c_Page_words : KnM P w K mg base CX0 "Page" "words" 6 ["self"] sp_Page_words := kn_Page_words T at_Page_words c_Sheet_words
  have c_Sheet_steps : KnM P w K mg base CX0 "Sheet" "steps" 1 ["self"] sp_Sheet_steps := kn_Sheet_steps T at_Sheet_steps
  have c_Page_steps : KnM P w K mg base CX0 "Page" "steps" 2 ["self"] sp_Page_steps := kn_Page_steps T at_Page_steps c_Sheet_steps
  have c__law_told_right : Kn P w K mg base "_law_told_right" 9 ["page", "pressed", "answered", "state"] sp__law_told_right := kn__law_told_right T at__law_told_right c__law_since c_Page_composed c_Page_shown c_Page_text c_Page_display c_Page_caret c_Page_covered c_Page_cells c_Page_words c_Page_steps
  exact fnD F50 sc_law mono_spLaw (len_spLaw rfl) (d_law T c__law_bag c_Page___init__ c__law_take c__law_word c__law_key c__law_key_right c__law_shown c__law_since c_Page_hear c__law_told_right _) pf_law
end Qk47
open PySem PySem.W PyProof.Rows in
set_option maxRecDepth 100000 in
set_option maxHeartbeats 0 in
theorem PySem.Challenge.cw_asshown_k47_keys_at_a_page_holds : PySem.Challenge.rw_asshown_k47_keys_at_a_page.Holds := by
  w_on; o_law; k_head; (case hw => w_witness2)
  k_fill
  refine Dl.law_walk (l := PySem.Challenge.rw_asshown_k47_keys_at_a_page) (k := 10) (x := "script") rfl rfl ⟨rfl, by decide, by decide⟩ (fun w h Y => by first | exact PySem.W.kIn_of Y | exact PySem.W.km_in_of Y) (fun w => by kernel_rfl) (fun w x hx => ?D) ?F
  case D =>
    simp only [Dl.lamNames, List.mem_cons, List.not_mem_nil, or_false] at hx
    rcases hx with rfl | rfl | rfl
    all_goals first
      | exact fun _ _ => ⟨_, rfl⟩
      | exact fun cp h => nomatch (show (none : Option (Addr × Addr)) = some cp from (by kernel_rfl : none = _).trans h)
  case F =>
    intro w mg fa h KX G hmg
    refine' Qk47.all_mk KX G hmg ?y_Page ?p1_Page ?p2_Page ?p3_Page ?p4_Page ?p5_Page ?p6_Page ?y_Site ?p1_Site ?p2_Site ?p3_Site ?p4_Site ?p5_Site ?p6_Site ?y_Sheet ?p1_Sheet ?p2_Sheet ?p3_Sheet ?p4_Sheet ?p5_Sheet ?p6_Sheet ?g_Page_answered ?g_Page_begun ?g_Page_latest ?g_Page_number ?g_Page_pressed ?g_Page_site ?g_Sheet_cell_row ?g_Sheet_later ?g_Sheet_pair_rows ?g_Sheet_past ?g_Sheet_upright ?g_Site_caret_at ?g_Site_covered_many ?g_Site_sheet ?a1 ?l1 ?q1 ?k1 ?a2 ?n2 ?l2 ?q2 ?k2 ?a3 ?n3 ?l3 ?q3 ?k3 ?a4 ?n4 ?l4 ?q4 ?k4 ?a5 ?l5 ?q5 ?k5 ?a6 ?l6 ?q6 ?k6 ?a7 ?l7 ?q7 ?k7 ?a8 ?l8 ?q8 ?k8 ?a9 ?l9 ?q9 ?k9 ?a10 ?n10 ?l10 ?q10 ?k10 ?a11 ?l11 ?q11 ?k11 ?a12 ?l12 ?q12 ?k12 ?a13 ?l13 ?q13 ?k13 ?a14 ?l14 ?q14 ?k14 ?a15 ?l15 ?q15 ?k15 ?a16 ?l16 ?q16 ?k16 ?a17 ?l17 ?q17 ?k17 ?a18 ?l18 ?q18 ?k18 ?a19 ?l19 ?q19 ?k19 ?a20 ?n20 ?l20 ?q20 ?k20 ?a21 ?n21 ?l21 ?q21 ?k21 ?a22 ?l22 ?q22 ?k22 ?a23 ?l23 ?q23 ?k23 ?a24 ?l24 ?q24 ?k24 ?a25 ?l25 ?q25 ?k25 ?a26 ?l26 ?q26 ?k26 ?a27 ?l27 ?q27 ?k27 ?a28 ?n28 ?l28 ?q28 ?k28 ?a29 ?n29 ?l29 ?q29 ?k29 ?a30 ?n30 ?l30 ?q30 ?k30 ?a31 ?n31 ?l31 ?q31 ?k31 ?a32 ?l32 ?q32 ?k32 ?a33 ?n33 ?l33 ?q33 ?k33 ?a34 ?n34 ?l34 ?q34 ?k34 ?a35 ?n35 ?l35 ?q35 ?k35 ?a36 ?n36 ?l36 ?q36 ?k36 ?a37 ?n37 ?l37 ?q37 ?k37 ?a38 ?n38 ?l38 ?q38 ?k38 ?a39 ?n39 ?l39 ?q39 ?k39 ?a40 ?n40 ?l40 ?q40 ?k40 ?a41 ?n41 ?l41 ?q41 ?k41 ?a42 ?n42 ?l42 ?q42 ?k42 ?a43 ?l43 ?q43 ?k43 ?a44 ?n44 ?l44 ?q44 ?k44 ?a45 ?n45 ?l45 ?q45 ?k45 ?a46 ?n46 ?l46 ?q46 ?k46 ?a47 ?n47 ?l47 ?q47 ?k47 ?a48 ?n48 ?l48 ?q48 ?k48 ?a49 ?l49 ?q49 ?k49 ?a50 ?l50 ?q50 ?k50 ?z_all ?z_bool ?z_enumerate ?z_int ?z_isinstance ?z_len ?z_list ?z_max ?z_min ?z_range ?z_str ?z_sum ?z_tuple ?y_LARGE ?y_LETTERS ?y_LONGEST ?y_MOST ?y_NAMED ?w_NAMED ?y_NOTHING ?w_NOTHING ?v_NOTHING ?y_SMALL ?y_Full ?y_NoCommit ?y_NoKey ?y_NoNumber ?y_NoState ?q1_Full ?q2_Full ?q3_Full ?q4_Full ?q1_NoCommit ?q2_NoCommit ?q3_NoCommit ?q4_NoCommit ?q1_NoKey ?q2_NoKey ?q3_NoKey ?q4_NoKey ?q1_NoNumber ?q2_NoNumber ?q3_NoNumber ?q4_NoNumber ?q1_NoState ?q2_NoState ?q3_NoState ?q4_NoState ?r0_Full ?r1_Full ?r2_Full ?r3_Full ?r4_Full ?r5_Full ?r6_Full ?r7_Full ?r0_NoCommit ?r1_NoCommit ?r2_NoCommit ?r3_NoCommit ?r4_NoCommit ?r5_NoCommit ?r6_NoCommit ?r7_NoCommit ?r0_NoKey ?r1_NoKey ?r2_NoKey ?r3_NoKey ?r4_NoKey ?r5_NoKey ?r6_NoKey ?r7_NoKey ?r0_NoNumber ?r1_NoNumber ?r2_NoNumber ?r3_NoNumber ?r4_NoNumber ?r5_NoNumber ?r6_NoNumber ?r7_NoNumber ?r0_NoState ?r1_NoState ?r2_NoState ?r3_NoState ?r4_NoState ?r5_NoState ?r6_NoState ?r7_NoState ?w_Full_Full ?w_Full_NoCommit ?w_Full_NoKey ?w_Full_NoNumber ?w_Full_NoState
    (case y_Page => k_is)
    (case p1_Page => k_is)
    (case p2_Page => k_is)
    (case p3_Page => k_is)
    (case p4_Page => k_is)
    (case p5_Page => k_is)
    (case p6_Page => k_is)
    (case y_Site => k_is)
    (case p1_Site => k_is)
    (case p2_Site => k_is)
    (case p3_Site => k_is)
    (case p4_Site => k_is)
    (case p5_Site => k_is)
    (case p6_Site => k_is)
    (case y_Sheet => k_is)
    (case p1_Sheet => k_is)
    (case p2_Sheet => k_is)
    (case p3_Sheet => k_is)
    (case p4_Sheet => k_is)
    (case p5_Sheet => k_is)
    (case p6_Sheet => k_is)
    (case g_Page_answered => k_is)
    (case g_Page_begun => k_is)
    (case g_Page_latest => k_is)
    (case g_Page_number => k_is)
    (case g_Page_pressed => k_is)
    (case g_Page_site => k_is)
    (case g_Sheet_cell_row => k_is)
    (case g_Sheet_later => k_is)
    (case g_Sheet_pair_rows => k_is)
    (case g_Sheet_past => k_is)
    (case g_Sheet_upright => k_is)
    (case g_Site_caret_at => k_is)
    (case g_Site_covered_many => k_is)
    (case g_Site_sheet => k_is)
    (case a1 => k_is)
    (case l1 => k_is)
    (case q1 => k_is)
    (case k1 => k_is)
    (case a2 => k_is)
    (case n2 => k_is)
    (case l2 => k_is)
    (case q2 => k_is)
    (case k2 => k_is)
    (case a3 => k_is)
    (case n3 => k_is)
    (case l3 => k_is)
    (case q3 => k_is)
    (case k3 => k_is)
    (case a4 => k_is)
    (case n4 => k_is)
    (case l4 => k_is)
    (case q4 => k_is)
    (case k4 => k_is)
    (case a5 => k_is)
    (case l5 => k_is)
    (case q5 => k_is)
    (case k5 => k_is)
    (case a6 => k_is)
    (case l6 => k_is)
    (case q6 => k_is)
    (case k6 => k_is)
    (case a7 => k_is)
    (case l7 => k_is)
    (case q7 => k_is)
    (case k7 => k_is)
    (case a8 => k_is)
    (case l8 => k_is)
    (case q8 => k_is)
    (case k8 => k_is)
    (case a9 => k_is)
    (case l9 => k_is)
    (case q9 => k_is)
    (case k9 => k_is)
    (case a10 => k_is)
    (case n10 => k_is)
    (case l10 => k_is)
    (case q10 => k_is)
    (case k10 => k_is)
    (case a11 => k_is)
    (case l11 => k_is)
    (case q11 => k_is)
    (case k11 => k_is)
    (case a12 => k_is)
    (case l12 => k_is)
    (case q12 => k_is)
    (case k12 => k_is)
    (case a13 => k_is)
    (case l13 => k_is)
    (case q13 => k_is)
    (case k13 => k_is)
    (case a14 => k_is)
    (case l14 => k_is)
    (case q14 => k_is)
    (case k14 => k_is)
    (case a15 => k_is)
    (case l15 => k_is)
    (case q15 => k_is)
    (case k15 => k_is)
    (case a16 => k_is)
    (case l16 => k_is)
    (case q16 => k_is)
    (case k16 => k_is)
    (case a17 => k_is)
    (case l17 => k_is)
    (case q17 => k_is)
    (case k17 => k_is)
    (case a18 => k_is)
    (case l18 => k_is)
    (case q18 => k_is)
    (case k18 => k_is)
    (case a19 => k_is)
    (case l19 => k_is)
    (case q19 => k_is)
    (case k19 => k_is)
    (case a20 => k_is)
    (case n20 => k_is)
    (case l20 => k_is)
    (case q20 => k_is)
    (case k20 => k_is)
    (case a21 => k_is)
    (case n21 => k_is)
    (case l21 => k_is)
    (case q21 => k_is)
    (case k21 => k_is)
    (case a22 => k_is)
    (case l22 => k_is)
    (case q22 => k_is)
    (case k22 => k_is)
    (case a23 => k_is)
    (case l23 => k_is)
    (case q23 => k_is)
    (case k23 => k_is)
    (case a24 => k_is)
    (case l24 => k_is)
    (case q24 => k_is)
    (case k24 => k_is)
    (case a25 => k_is)
    (case l25 => k_is)
    (case q25 => k_is)
    (case k25 => k_is)
    (case a26 => k_is)
    (case l26 => k_is)
    (case q26 => k_is)
    (case k26 => k_is)
    (case a27 => k_is)
    (case l27 => k_is)
    (case q27 => k_is)
    (case k27 => k_is)
    (case a28 => k_is)
    (case n28 => k_is)
    (case l28 => k_is)
    (case q28 => k_is)
    (case k28 => k_is)
    (case a29 => k_is)
    (case n29 => k_is)
    (case l29 => k_is)
    (case q29 => k_is)
    (case k29 => k_is)
    (case a30 => k_is)
    (case n30 => k_is)
    (case l30 => k_is)
    (case q30 => k_is)
    (case k30 => k_is)
    (case a31 => k_is)
    (case n31 => k_is)
    (case l31 => k_is)
    (case q31 => k_is)
    (case k31 => k_is)
    (case a32 => k_is)
    (case l32 => k_is)
    (case q32 => k_is)
    (case k32 => k_is)
    (case a33 => k_is)
    (case n33 => k_is)
    (case l33 => k_is)
    (case q33 => k_is)
    (case k33 => k_is)
    (case a34 => k_is)
    (case n34 => k_is)
    (case l34 => k_is)
    (case q34 => k_is)
    (case k34 => k_is)
    (case a35 => k_is)
    (case n35 => k_is)
    (case l35 => k_is)
    (case q35 => k_is)
    (case k35 => k_is)
    (case a36 => k_is)
    (case n36 => k_is)
    (case l36 => k_is)
    (case q36 => k_is)
    (case k36 => k_is)
    (case a37 => k_is)
    (case n37 => k_is)
    (case l37 => k_is)
    (case q37 => k_is)
    (case k37 => k_is)
    (case a38 => k_is)
    (case n38 => k_is)
    (case l38 => k_is)
    (case q38 => k_is)
    (case k38 => k_is)
    (case a39 => k_is)
    (case n39 => k_is)
    (case l39 => k_is)
    (case q39 => k_is)
    (case k39 => k_is)
    (case a40 => k_is)
    (case n40 => k_is)
    (case l40 => k_is)
    (case q40 => k_is)
    (case k40 => k_is)
    (case a41 => k_is)
    (case n41 => k_is)
    (case l41 => k_is)
    (case q41 => k_is)
    (case k41 => k_is)
    (case a42 => k_is)
    (case n42 => k_is)
    (case l42 => k_is)
    (case q42 => k_is)
    (case k42 => k_is)
    (case a43 => k_is)
    (case l43 => k_is)
    (case q43 => k_is)
    (case k43 => k_is)
    (case a44 => k_is)
    (case n44 => k_is)
    (case l44 => k_is)
    (case q44 => k_is)
    (case k44 => k_is)
    (case a45 => k_is)
    (case n45 => k_is)
    (case l45 => k_is)
    (case q45 => k_is)
    (case k45 => k_is)
    (case a46 => k_is)
    (case n46 => k_is)
    (case l46 => k_is)
    (case q46 => k_is)
    (case k46 => k_is)
    (case a47 => k_is)
    (case n47 => k_is)
    (case l47 => k_is)
    (case q47 => k_is)
    (case k47 => k_is)
    (case a48 => k_is)
    (case n48 => k_is)
    (case l48 => k_is)
    (case q48 => k_is)
    (case k48 => k_is)
    (case a49 => k_is)
    (case l49 => k_is)
    (case q49 => k_is)
    (case k49 => k_is)
    (case a50 => k_is)
    (case l50 => k_is)
    (case q50 => k_is)
    (case k50 => k_is)
    (case z_all => k_is)
    (case z_bool => k_is)
    (case z_enumerate => k_is)
    (case z_int => k_is)
    (case z_isinstance => k_is)
    (case z_len => k_is)
    (case z_list => k_is)
    (case z_max => k_is)
    (case z_min => k_is)
    (case z_range => k_is)
    (case z_str => k_is)
    (case z_sum => k_is)
    (case z_tuple => k_is)
    (case y_LARGE => k_is)
    (case y_LETTERS => k_is)
    (case y_LONGEST => k_is)
    (case y_MOST => k_is)
    (case y_NAMED => k_is)
    (case w_NAMED => k_is)
    (case y_NOTHING => k_is)
    (case w_NOTHING => k_is)
    (case v_NOTHING => k_is)
    (case y_SMALL => k_is)
    (case y_Full => k_is)
    (case y_NoCommit => k_is)
    (case y_NoKey => k_is)
    (case y_NoNumber => k_is)
    (case y_NoState => k_is)
    (case q1_Full => k_is)
    (case q2_Full => k_exc)
    (case q3_Full => k_is)
    (case q4_Full => k_is)
    (case q1_NoCommit => k_is)
    (case q2_NoCommit => k_exc)
    (case q3_NoCommit => k_is)
    (case q4_NoCommit => k_is)
    (case q1_NoKey => k_is)
    (case q2_NoKey => k_exc)
    (case q3_NoKey => k_is)
    (case q4_NoKey => k_is)
    (case q1_NoNumber => k_is)
    (case q2_NoNumber => k_exc)
    (case q3_NoNumber => k_is)
    (case q4_NoNumber => k_is)
    (case q1_NoState => k_is)
    (case q2_NoState => k_exc)
    (case q3_NoState => k_is)
    (case q4_NoState => k_is)
    (case r0_Full => k_is)
    (case r1_Full => k_is)
    (case r2_Full => k_is)
    (case r3_Full => k_is)
    (case r4_Full => k_is)
    (case r5_Full => k_is)
    (case r6_Full => k_is)
    (case r7_Full => k_is)
    (case r0_NoCommit => k_is)
    (case r1_NoCommit => k_is)
    (case r2_NoCommit => k_is)
    (case r3_NoCommit => k_is)
    (case r4_NoCommit => k_is)
    (case r5_NoCommit => k_is)
    (case r6_NoCommit => k_is)
    (case r7_NoCommit => k_is)
    (case r0_NoKey => k_is)
    (case r1_NoKey => k_is)
    (case r2_NoKey => k_is)
    (case r3_NoKey => k_is)
    (case r4_NoKey => k_is)
    (case r5_NoKey => k_is)
    (case r6_NoKey => k_is)
    (case r7_NoKey => k_is)
    (case r0_NoNumber => k_is)
    (case r1_NoNumber => k_is)
    (case r2_NoNumber => k_is)
    (case r3_NoNumber => k_is)
    (case r4_NoNumber => k_is)
    (case r5_NoNumber => k_is)
    (case r6_NoNumber => k_is)
    (case r7_NoNumber => k_is)
    (case r0_NoState => k_is)
    (case r1_NoState => k_is)
    (case r2_NoState => k_is)
    (case r3_NoState => k_is)
    (case r4_NoState => k_is)
    (case r5_NoState => k_is)
    (case r6_NoState => k_is)
    (case r7_NoState => k_is)
    (case w_Full_Full => kts_exm)
    (case w_Full_NoCommit => kts_exm)
    (case w_Full_NoKey => kts_exm)
    (case w_Full_NoNumber => kts_exm)
    (case w_Full_NoState => kts_exm)
