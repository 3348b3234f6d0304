import PyProof.Rows.All
import Wide.All
import OpenK.AllK
import Wide.FinOn
import HandS.ForMost
import HandS.Lambda
import HandS.Exc
import HandS.WordsExc
import HandS.Wide
import HandS.TupAny
import HandS.IsInst
import HandS.Style
import HandS.TupLen
import HandS.Codes
import PyProof.Rows.IntBool
import PyProof.StrOps2
import PyProof.NeKinds
import HandS.EndBits
import HandS.More
import HandS.RaiseMore
import PyProof.CallStr
import KE.IntBitsLaws
import HandS.Dict
import HandS.DictComp
import PyProof.Draws
import PyProof.EnumMake
import PyProof.ReprRoads
import PyProof.ReprBulk
import PyProof.FitsInt
import HandS.Defaults
import HandS.MakeKwOnly
import KE.KDictWalk
import KE.KDictItemsList
import KE.SortData
import HandS.DictTup
import KE.SortKeyHeap
import KE.KSortKey
import HandS.SortKw
import KE.LtData
import HandS.Iter
import HandS.SetKeys
import HandS.ForExc
import HandS.ExcIs
import HandS.TryOnly
import HandS.Zip
import PyProof.ListStr
import HandS.TupMul
import HandS.Deep
import KE.DataMinMax
import KE.OsRunLaw
import PySem.Challenge.RW_asshown_k11_whole_rests_of_the_cheapest
set_option Elab.async false
set_option linter.all false
set_option autoImplicit false
set_option maxRecDepth 100000
set_option maxHeartbeats 4000000
namespace Dl
open PySem PySem.Spec PyProof.Rows L2
/-- a datum: lists and dicts that are never changed are data, what changes stands in the store (ref) -/
inductive D where
  | non | bl (b : Bool) | int (i : Int) | str (x : Str)
  | tup (xs : List D) | lst (xs : List D) | frl (xs : List D)
  | dk (ks : List Key) (xs : List D) | dt (ks : List (List Key)) (xs : List D)
  | ref (l : Nat)
  | exc (x : Str) (ks : List Str) (xs : List D)
/-- what stands in the store -/
inductive MO where
  | lst (xs : List D) | dk (ks : List Key) (xs : List D) | dt (ks : List (List Key)) (xs : List D)
  | ins (c : Str) (fs : List (Str × D))
  | fdk (ks : List Key) (xs : List D) | fdt (ks : List (List Key)) (xs : List D)
/-- a locked dict is not to be changed -/
def MO.live : MO → Bool
  | .fdk _ _ => false
  | .fdt _ _ => false
  | _ => true
abbrev Sto := List (Option MO)
abbrev En := List (Option D)
/-- a list that is read alone: the script -/
def SqF (K : PySem.W.Frag) (F : Hp) (a : Addr) (xs : List V) : Prop :=
  (∃ o, F a = some (.frz o (.lst xs))) ∨
    ∃ (o : Obj) (its : Array Value) (n : Nat), K.lookup a = some o ∧ o.cls = .type "list" ∧ o.dict = none ∧ o.data = .seq its n ∧ its.size ≤ sizeLine ∧ Vals xs its.toList
theorem SqF.seq {K : PySem.W.Frag} {F : Hp} {a : Addr} {xs : List V} (h : SqF K F a xs) : SqL K F a xs := by
  rcases h with ⟨o, h⟩ | h
  · exact .inl (.inr ⟨o, h⟩)
  · exact .inr h
theorem SqF.same {K : PySem.W.Frag} {F F' : Hp} {a : Addr} {xs : List V} (e : Same F F') (h : SqF K F a xs) : SqF K F' a xs := by
  rcases h with ⟨o, h⟩ | h
  · exact .inl ⟨o, e _ _ h⟩
  · exact .inr h
/-- a caught exception of the class cls, its fields' dict d, at a -/
def ExA (cls : Value) (d : Option Addr) (a : Addr) : HO := .ext fun h => ∃ (oe : Obj) (vs : Array Value), h.get? a = some oe ∧ Zc cls d oe ∧ oe.data = .fields vs
/-- .. made with one text, that stands in the tuple at t -/
def ExT (cls : Value) (t : Addr) (a : Addr) : HO := .ext fun h => ∃ (oe : Obj) (vs : Array Value), h.get? a = some oe ∧ Zc cls none oe ∧ oe.data = .fields vs ∧ vs[0]? = some (.ref t)
/-- an exception of the class that the module calls x: its fields; or none; or the text that it was made with -/
def ExAt (K : PySem.W.Frag) (F : Hp) (x : Str) (ks : List Str) (a : Addr) (fvs : List (Str × V)) : Prop :=
  ∃ cls, PySem.W.nsIn K mainGlobals x = some (some cls) ∧
    ((F a = some (ExA cls none a) ∧ fvs = [] ∧ ks = []) ∨ (∃ d, F a = some (ExA cls (some d) a) ∧ F d = some (.xd fvs) ∧ fvs.map (·.1) = ks ∧ ks ≠ [] ∧ ks ≠ [("" : Str)]) ∨ ∃ t z, F a = some (ExT cls t a) ∧ F t = some (.tup [.str z]) ∧ fvs = [(("" : Str), V.str z)] ∧ ks = [("" : Str)])
theorem ExAt.same {K : PySem.W.Frag} {F F' : Hp} {x : Str} {ks : List Str} {a : Addr} {fvs : List (Str × V)} (e : Same F F') : ExAt K F x ks a fvs → ExAt K F' x ks a fvs := fun ⟨cls, h, q⟩ =>
  ⟨cls, h, q.elim (fun ⟨a, b, c⟩ => .inl ⟨e _ _ a, b, c⟩) fun q => .inr (q.elim (fun ⟨d, a, b, c⟩ => .inl ⟨d, e _ _ a, e _ _ b, c⟩) fun ⟨t, z, a, b, c⟩ => .inr ⟨t, z, e _ _ a, e _ _ b, c⟩)⟩
theorem ExAt.some {K : PySem.W.Frag} {F : Hp} {x : Str} {ks : List Str} {a : Addr} {fvs : List (Str × V)} : ExAt K F x ks a fvs → ∃ φ, F a = some (.ext φ) := fun ⟨cls, h, q⟩ =>
  q.elim (fun ⟨a, b, c⟩ => ⟨_, a⟩) fun q => q.elim (fun ⟨d, a, b, c⟩ => ⟨_, a⟩) fun ⟨t, z, a, b, c⟩ => ⟨_, a⟩
theorem sqT_same {K : PySem.W.Frag} {H H' : Hp} {a : Addr} {xs : List V} (e : Same H H') (h : SqT K H a xs) : SqT K H' a xs := by
  rcases h with (h | ⟨o, h⟩) | h
  · exact .inl (.inl (e _ _ h))
  · exact .inl (.inr ⟨o, e _ _ h⟩)
  · exact .inr h
/-- a tuple: a tracked one, or one of the module that is no key -/
structure TpF (K : PySem.W.Frag) (F : Hp) (a : Addr) (vs : List V) : Prop where
  q : SqT K F a vs
  t : F a = some (.tup vs) ∨ vs = [] ∨ ∃ e r, vs = V.ref e :: r
theorem TpF.of {K : PySem.W.Frag} {F : Hp} {a : Addr} {vs : List V} (h : F a = some (.tup vs)) : TpF K F a vs := ⟨.of h, .inl h⟩
theorem TpF.same {K : PySem.W.Frag} {F F' : Hp} {a : Addr} {vs : List V} (h : TpF K F a vs) (e : Same F F') : TpF K F' a vs := ⟨sqT_same e h.q, h.t.imp (e _ _) id⟩
mutual
inductive Dat (K : PySem.W.Frag) (F : Hp) (A : List Addr) : D → V → Prop
  | non : Dat K F A .non .non
  | bl (b : Bool) : Dat K F A (.bl b) (.bl b)
  | int (i : Int) : Dat K F A (.int i) (.int i)
  | str (x : Str) (h : x.length ≤ sizeLine) : Dat K F A (.str x) (.str x)
  | tup {a : Addr} {vs : List V} {ds : List D} : TpF K F a vs → DatL K F A ds vs → Dat K F A (.tup ds) (.ref a)
  | lst {a : Addr} {vs : List V} {ds : List D} : F a = some (.lst vs) → DatL K F A ds vs → Dat K F A (.lst ds) (.ref a)
  | frl {a : Addr} {vs : List V} {ds : List D} : SqF K F a vs → DatL K F A ds vs → Dat K F A (.frl ds) (.ref a)
  | dk {a : Addr} {kvs : List (Key × V)} {ds : List D} : F a = some (.dK kvs) → DatL K F A ds (kvs.map (·.2)) → Dat K F A (.dk (kvs.map (·.1)) ds) (.ref a)
  | dt {a : Addr} {kvs : List (List Key × V)} {ds : List D} : F a = some (.dT kvs) → DatL K F A ds (kvs.map (·.2)) → Dat K F A (.dt (kvs.map (·.1)) ds) (.ref a)
  | ref {l : Nat} {a : Addr} : A[l]? = some a → Dat K F A (.ref l) (.ref a)
  | exc {x : Str} {ks : List Str} {xs : List D} {a : Addr} {fvs : List (Str × V)} : ExAt K F x ks a fvs → DatL K F A xs (fvs.map (·.2)) → Dat K F A (.exc x ks xs) (.ref a)
inductive DatL (K : PySem.W.Frag) (F : Hp) (A : List Addr) : List D → List V → Prop
  | nil : DatL K F A [] []
  | cons {d : D} {ds : List D} {v : V} {vs : List V} : Dat K F A d v → DatL K F A ds vs → DatL K F A (d :: ds) (v :: vs)
end
mutual
theorem Dat.mono {K : PySem.W.Frag} {F F' : Hp} {A A' : List Addr} (e : Same F F') (p : ∀ (l : Nat) (a : Addr), A[l]? = some a → A'[l]? = some a) : ∀ (d : D) (v : V), Dat K F A d v → Dat K F' A' d v
  | .non, _, h => by cases h; exact .non
  | .bl _, _, h => by cases h; exact .bl _
  | .int _, _, h => by cases h; exact .int _
  | .str _, _, h => by
    cases h with
    | str _ hx => exact .str _ hx
  | .tup ds, _, h => by
    cases h with
    | tup hs ha => exact .tup (hs.same e) (DatL.mono e p ds _ ha)
  | .lst ds, _, h => by
    cases h with
    | lst hs ha => exact .lst (e _ _ hs) (DatL.mono e p ds _ ha)
  | .frl ds, _, h => by
    cases h with
    | frl hs ha => exact .frl (hs.same e) (DatL.mono e p ds _ ha)
  | .dk ks ds, _, h => by
    cases h with
    | dk hs ha => exact .dk (e _ _ hs) (DatL.mono e p ds _ ha)
  | .dt ks ds, _, h => by
    cases h with
    | dt hs ha => exact .dt (e _ _ hs) (DatL.mono e p ds _ ha)
  | .ref _, _, h => by
    cases h with
    | ref ha => exact .ref (p _ _ ha)
  | .exc x ks xs, _, h => by
    cases h with
    | exc h1 h2 => exact .exc (h1.same e) (DatL.mono e p xs _ h2)
theorem DatL.mono {K : PySem.W.Frag} {F F' : Hp} {A A' : List Addr} (e : Same F F') (p : ∀ (l : Nat) (a : Addr), A[l]? = some a → A'[l]? = some a) : ∀ (ds : List D) (vs : List V), DatL K F A ds vs → DatL K F' A' ds vs
  | [], _, h => by cases h; exact .nil
  | d :: ds, _, h => by
    cases h with
    | cons h1 h2 => exact .cons (Dat.mono e p d _ h1) (DatL.mono e p ds _ h2)
end
section
variable {K : PySem.W.Frag} {F : Hp} {A : List Addr}
theorem DatL.length : ∀ {ds : List D} {vs : List V}, DatL K F A ds vs → vs.length = ds.length
  | [], _, h => by cases h; rfl
  | _ :: ds, _, h => by
    cases h with
    | cons _ h2 => simp [DatL.length h2]
theorem DatL.get : ∀ {ds : List D} {vs : List V} {i : Nat} {d : D}, DatL K F A ds vs → ds[i]? = some d → ∃ v, vs[i]? = some v ∧ Dat K F A d v
  | [], _, _, _, _, e => by simp at e
  | d :: ds, _, 0, _, h, e => by
    cases h with
    | cons h1 h2 => simp at e; subst e; exact ⟨_, rfl, h1⟩
  | d :: ds, _, i + 1, _, h, e => by
    cases h with
    | cons h1 h2 =>
      obtain ⟨v, e1, h3⟩ := DatL.get (i := i) h2 (by simpa using e)
      exact ⟨v, by simpa using e1, h3⟩
theorem DatL.get' {ds : List D} {vs : List V} {i : Nat} {v : V} (h : DatL K F A ds vs) (e : vs[i]? = some v) : ∃ d, ds[i]? = some d ∧ Dat K F A d v := by
  have hl : i < ds.length := by rw [← h.length]; exact (List.getElem?_eq_some_iff.mp e).1
  obtain ⟨v', e', hd⟩ := h.get (List.getElem?_eq_getElem hl)
  rw [e] at e'; cases e'
  exact ⟨_, List.getElem?_eq_getElem hl, hd⟩
theorem DatL.append : ∀ {ds es : List D} {vs ws : List V}, DatL K F A ds vs → DatL K F A es ws → DatL K F A (ds ++ es) (vs ++ ws)
  | [], _, _, _, h, g => by cases h; exact g
  | _ :: ds, _, _, _, h, g => by
    cases h with
    | cons h1 h2 => exact .cons h1 (DatL.append h2 g)
theorem DatL.set : ∀ {ds : List D} {vs : List V} {d : D} {v : V} (i : Nat), Dat K F A d v → DatL K F A ds vs → DatL K F A (ds.set i d) (vs.set i v)
  | [], _, _, _, _, _, h => by cases h; exact .nil
  | _ :: ds, _, _, _, 0, g, h => by
    cases h with
    | cons h1 h2 => exact .cons g h2
  | _ :: ds, _, _, _, i + 1, g, h => by
    cases h with
    | cons h1 h2 => exact .cons h1 (DatL.set i g h2)
theorem DatL.take : ∀ {ds : List D} {vs : List V} (n : Nat), DatL K F A ds vs → DatL K F A (ds.take n) (vs.take n)
  | _, _, 0, _ => .nil
  | [], _, _ + 1, h => by cases h; exact .nil
  | _ :: ds, _, n + 1, h => by
    cases h with
    | cons h1 h2 => exact .cons h1 (DatL.take n h2)
theorem DatL.drop : ∀ {ds : List D} {vs : List V} (n : Nat), DatL K F A ds vs → DatL K F A (ds.drop n) (vs.drop n)
  | _, _, 0, h => h
  | [], _, _ + 1, h => by cases h; exact .nil
  | _ :: ds, _, n + 1, h => by
    cases h with
    | cons h1 h2 => exact DatL.drop n h2
theorem DatL.reverse {ds : List D} {vs : List V} (h : DatL K F A ds vs) : DatL K F A ds.reverse vs.reverse := by
  induction ds generalizing vs with
  | nil => cases h; exact .nil
  | cons d ds ih =>
    cases h with
    | cons h1 h2 =>
      rw [List.reverse_cons, List.reverse_cons]
      exact (ih h2).append (.cons h1 .nil)
theorem DatL.eraseIdx : ∀ {ds : List D} {vs : List V} (i : Nat), DatL K F A ds vs → DatL K F A (ds.eraseIdx i) (vs.eraseIdx i)
  | [], _, _, h => by cases h; exact .nil
  | _ :: ds, _, 0, h => by
    cases h with
    | cons h1 h2 => exact h2
  | _ :: ds, _, i + 1, h => by
    cases h with
    | cons h1 h2 => exact .cons h1 (DatL.eraseIdx i h2)
theorem DatL.strs : ∀ {xs : List Str} {vs : List V}, DatL K F A (xs.map D.str) vs → vs = xs.map V.str
  | [], _, h => by cases h; rfl
  | x :: xs, _, h => by
    cases h with
    | cons h1 h2 => cases h1; rw [DatL.strs h2]; rfl
theorem DatL.ints : ∀ {xs : List Int} {vs : List V}, DatL K F A (xs.map D.int) vs → vs = xs.map V.int
  | [], _, h => by cases h; rfl
  | x :: xs, _, h => by
    cases h with
    | cons h1 h2 => cases h1; rw [DatL.ints h2]; rfl
theorem DatL.bls : ∀ {xs : List Bool} {vs : List V}, DatL K F A (xs.map D.bl) vs → vs = xs.map V.bl
  | [], _, h => by cases h; rfl
  | x :: xs, _, h => by
    cases h with
    | cons h1 h2 => cases h1; rw [DatL.bls h2]; rfl
theorem DatL.of_ints : ∀ (xs : List Int), DatL K F A (xs.map D.int) (xs.map V.int)
  | [] => .nil
  | x :: xs => .cons (.int x) (DatL.of_ints xs)
end
def Live (A : List Addr) (s : Sto) (a : Addr) : Prop := ∃ (l : Nat) (mo : MO), s[l]? = some (some mo) ∧ A[l]? = some a ∧ mo.live = true
open Classical in
/-- what does not change: without the live objects and those at B -/
noncomputable def Fz (B : List Addr) (H : Hp) (A : List Addr) (s : Sto) : Hp := fun a => if Live A s a ∨ a ∈ B ∨ ∃ ps, H a = some (.tbl ps) then none else H a
theorem fz_of {B : List Addr} {H : Hp} {A : List Addr} {s : Sto} {a : Addr} {o : HO} (h : Fz B H A s a = some o) : H a = some o ∧ ¬ Live A s a ∧ a ∉ B := by
  unfold Fz at h
  split at h
  · cases h
  · rename_i q
    exact ⟨h, fun z => q (.inl z), fun z => q (.inr (.inl z))⟩
theorem fz_nt {B : List Addr} {H : Hp} {A : List Addr} {s : Sto} {a : Addr} {o : HO} (h : Fz B H A s a = some o) : ∀ ps, o ≠ .tbl ps := fun ps z => by
  have e := (fz_of h).1
  unfold Fz at h
  rw [if_pos (.inr (.inr ⟨ps, by rw [e, z]⟩))] at h
  cases h
theorem fz_to {B : List Addr} {H : Hp} {A : List Addr} {s : Sto} {a : Addr} {o : HO} (h : H a = some o) (n : ¬ Live A s a) (b : a ∉ B) (nt : ∀ ps, o ≠ .tbl ps := by exact fun _ z => nomatch z) : Fz B H A s a = some o := by
  unfold Fz
  rw [if_neg (fun z => z.elim n fun z => z.elim b fun ⟨ps, e⟩ => nt ps (Option.some.inj (h.symm.trans e)))]
  exact h
theorem fz_same {B : List Addr} {H : Hp} {A : List Addr} {s : Sto} : Same (Fz B H A s) H := fun _ _ h => (fz_of h).1
theorem sqL_fz {K : PySem.W.Frag} {B : List Addr} {H : Hp} {A : List Addr} {s : Sto} {a : Addr} {vs : List V} (h : SqL K (Fz B H A s) a vs) : SqL K H a vs := fz_same.seq h
theorem sqT_fz {K : PySem.W.Frag} {B : List Addr} {H : Hp} {A : List Addr} {s : Sto} {a : Addr} {vs : List V} (h : TpF K (Fz B H A s) a vs) : SqT K H a vs := sqT_same fz_same h.q
def ObR (K : PySem.W.Frag) (F : Hp) (A : List Addr) (H : Hp) (a : Addr) : MO → Prop
  | .lst ds => ∃ vs, H a = some (.lst vs) ∧ DatL K F A ds vs
  | .dk ks ds => ∃ kvs : List (Key × V), H a = some (.dK kvs) ∧ kvs.map (·.1) = ks ∧ DatL K F A ds (kvs.map (·.2))
  | .dt ks ds => ∃ kvs : List (List Key × V), H a = some (.dT kvs) ∧ kvs.map (·.1) = ks ∧ DatL K F A ds (kvs.map (·.2))
  | .ins c fs => ∃ C dx fvs, PySem.W.nsIn K mainGlobals c = some (some (.ref C)) ∧ H a = some (.ins C dx fvs) ∧ fvs.map (·.1) = fs.map (·.1) ∧ DatL K F A (fs.map (·.2)) (fvs.map (·.2))
  | .fdk ks ds => ∃ (o : Obj) (kvs : List (Key × V)), H a = some (.frz o (.dK kvs)) ∧ kvs.map (·.1) = ks ∧ DatL K F A ds (kvs.map (·.2))
  | .fdt ks ds => ∃ (o : Obj) (kvs : List (List Key × V)), H a = some (.frz o (.dT kvs)) ∧ kvs.map (·.1) = ks ∧ DatL K F A ds (kvs.map (·.2))
theorem ObR.mono {K : PySem.W.Frag} {F F' : Hp} {A A' : List Addr} {H H' : Hp} {a : Addr} (e : Same F F') (p : ∀ (l : Nat) (a : Addr), A[l]? = some a → A'[l]? = some a) (ha : H' a = H a) : ∀ {mo : MO}, ObR K F A H a mo → ObR K F' A' H' a mo
  | .lst _, ⟨vs, h, d⟩ => ⟨vs, ha.trans h, d.mono e p⟩
  | .dk _ _, ⟨kvs, h, k, d⟩ => ⟨kvs, ha.trans h, k, d.mono e p⟩
  | .dt _ _, ⟨kvs, h, k, d⟩ => ⟨kvs, ha.trans h, k, d.mono e p⟩
  | .ins _ _, ⟨C, dx, fvs, g, h, k, d⟩ => ⟨C, dx, fvs, g, ha.trans h, k, d.mono e p⟩
  | .fdk _ _, ⟨o, kvs, h, k, d⟩ => ⟨o, kvs, ha.trans h, k, d.mono e p⟩
  | .fdt _ _, ⟨o, kvs, h, k, d⟩ => ⟨o, kvs, ha.trans h, k, d.mono e p⟩
theorem ObR.some {K : PySem.W.Frag} {F : Hp} {A : List Addr} {H : Hp} {a : Addr} : ∀ {mo : MO}, ObR K F A H a mo → ∃ o, H a = some o
  | .lst _, ⟨_, h, _⟩ => ⟨_, h⟩
  | .dk _ _, ⟨_, h, _⟩ => ⟨_, h⟩
  | .dt _ _, ⟨_, h, _⟩ => ⟨_, h⟩
  | .ins _ _, ⟨_, _, _, _, h, _⟩ => ⟨_, h⟩
  | .fdk _ _, ⟨_, _, h, _⟩ => ⟨_, h⟩
  | .fdt _ _, ⟨_, _, h, _⟩ => ⟨_, h⟩
theorem ObR.ntup {K : PySem.W.Frag} {F : Hp} {A : List Addr} {H : Hp} {a : Addr} {mo : MO} (h : ObR K F A H a mo) : ∀ vs, H a ≠ Option.some (HO.tup vs) := fun vs z => by
  cases mo with
  | lst _ => obtain ⟨_, h, _⟩ := h; rw [h] at z; cases z
  | dk _ _ => obtain ⟨_, h, _⟩ := h; rw [h] at z; cases z
  | dt _ _ => obtain ⟨_, h, _⟩ := h; rw [h] at z; cases z
  | ins _ _ => obtain ⟨_, _, _, _, h, _⟩ := h; rw [h] at z; cases z
  | fdk _ _ => obtain ⟨_, _, h, _⟩ := h; rw [h] at z; cases z
  | fdt _ _ => obtain ⟨_, _, h, _⟩ := h; rw [h] at z; cases z
def lamNames : List Str := ["words_of", "words_at", "candidates"]
def tabsOf (K : PySem.W.Frag) : List (Addr × Str) := lamNames.filterMap fun x => (PySem.W.tabIn K x).map fun cp => (cp.2, x ++ (".<locals>." : Str) ++ ("<lambda>" : Str))
/-- neither a tuple nor a table nor a code object -/
structure HidO (u : HO) : Prop where
  t : ∀ vs, u ≠ .tup vs
  b : ∀ ps, u ≠ .tbl ps
  x : ∀ f, u ≠ .ext f
theorem tabs_upd {T : List (Addr × Str)} {H : Hp} {a : Addr} {o : HO} (t : LamX.Tabs T H) (n : ∀ u, H a = some u → (∀ ps, u ≠ .tbl ps) ∧ ∀ f, u ≠ .ext f) : LamX.Tabs T (upd H a o) := fun p hp => by
  obtain ⟨ps, h1, h2, h3⟩ := t p hp
  refine ⟨ps, by rw [upd_ne (fun z => (n _ (by rw [← z]; exact h1)).1 ps rfl)]; exact h1, h2, fun pos cv hc => ?_⟩
  obtain ⟨c, e1, e2⟩ := h3 pos cv hc
  exact ⟨c, e1, by rw [upd_ne (fun z => (n _ (by rw [← z]; exact e2)).2 _ rfl)]; exact e2⟩
theorem tabs_new {T : List (Addr × Str)} {H : Hp} {a : Addr} {o : HO} (t : LamX.Tabs T H) (n : H a = none) : LamX.Tabs T (upd H a o) := tabs_upd t fun u e => by rw [n] at e; cases e
theorem obr_hid {K : PySem.W.Frag} {F : Hp} {A : List Addr} {H : Hp} {a : Addr} : ∀ {mo : MO}, ObR K F A H a mo → ∀ u, H a = some u → (∀ ps, u ≠ .tbl ps) ∧ ∀ f, u ≠ .ext f
  | .lst _, ⟨_, h, _⟩, u, e => by rw [h] at e; cases e; exact ⟨(fun _ z => nomatch z), (fun _ z => nomatch z)⟩
  | .dk _ _, ⟨_, h, _⟩, u, e => by rw [h] at e; cases e; exact ⟨(fun _ z => nomatch z), (fun _ z => nomatch z)⟩
  | .dt _ _, ⟨_, h, _⟩, u, e => by rw [h] at e; cases e; exact ⟨(fun _ z => nomatch z), (fun _ z => nomatch z)⟩
  | .ins _ _, ⟨_, _, _, _, h, _⟩, u, e => by rw [h] at e; cases e; exact ⟨(fun _ z => nomatch z), (fun _ z => nomatch z)⟩
  | .fdk _ _, ⟨_, _, h, _⟩, u, e => by rw [h] at e; cases e; exact ⟨(fun _ z => nomatch z), (fun _ z => nomatch z)⟩
  | .fdt _ _, ⟨_, _, h, _⟩, u, e => by rw [h] at e; cases e; exact ⟨(fun _ z => nomatch z), (fun _ z => nomatch z)⟩
/-- the store s stands in H, its addresses A; B: what is hidden (a list that a comprehension makes) -/
structure RepS (K : PySem.W.Frag) (B : List Addr) (H : Hp) (A : List Addr) (s : Sto) : Prop where
  len : A.length = s.length
  inj : A.Nodup
  hd : ∀ a ∈ A, H a ≠ none
  hb : ∀ b ∈ B, H b ≠ none
  ab : ∀ b ∈ B, b ∉ A
  ht : ∀ b ∈ B, ∀ u, H b = some u → HidO u
  hx : ∀ a ∈ A, ∀ ps, H a ≠ some (.tbl ps)
  tb : LamX.Tabs (tabsOf K) H
  ob : ∀ (l : Nat) (mo : MO), s[l]? = some (some mo) → ∃ a, A[l]? = some a ∧ ObR K (Fz B H A s) A H a mo
structure Ext (B : List Addr) (H : Hp) (A : List Addr) (s : Sto) (H' : Hp) (A' : List Addr) (s' : Sto) : Prop where
  same : Same (Fz B H A s) (Fz B H' A' s')
  pre : ∀ (l : Nat) (a : Addr), A[l]? = some a → A'[l]? = some a
  hid : ∀ b ∈ B, H' b = H b
theorem Ext.refl {B : List Addr} {H : Hp} {A : List Addr} {s : Sto} : Ext B H A s H A s := ⟨Same.refl _, fun _ _ h => h, fun _ _ => rfl⟩
theorem Ext.trans {B : List Addr} {H H1 H2 : Hp} {A A1 A2 : List Addr} {s s1 s2 : Sto} (a : Ext B H A s H1 A1 s1) (b : Ext B H1 A1 s1 H2 A2 s2) : Ext B H A s H2 A2 s2 :=
  ⟨a.same.trans b.same, fun l c h => b.pre l c (a.pre l c h), fun c hc => (b.hid c hc).trans (a.hid c hc)⟩
theorem Dat.ext {K : PySem.W.Frag} {B : List Addr} {H H' : Hp} {A A' : List Addr} {s s' : Sto} {d : D} {v : V} (h : Dat K (Fz B H A s) A d v) (e : Ext B H A s H' A' s') : Dat K (Fz B H' A' s') A' d v := h.mono e.same e.pre
theorem DatL.ext {K : PySem.W.Frag} {B : List Addr} {H H' : Hp} {A A' : List Addr} {s s' : Sto} {d : List D} {v : List V} (h : DatL K (Fz B H A s) A d v) (e : Ext B H A s H' A' s') : DatL K (Fz B H' A' s') A' d v := h.mono e.same e.pre
section
variable {K : PySem.W.Frag} {B : List Addr} {H : Hp} {A : List Addr} {s : Sto}
theorem live_none (R : RepS K B H A s) {p : Addr} (hp : H p = none) : ¬ Live A s p := fun ⟨l, mo, h1, h2, _⟩ => R.hd p (List.mem_of_getElem? h2) hp
theorem hid_none (R : RepS K B H A s) {p : Addr} (hp : H p = none) : p ∉ B := fun h => R.hb p h hp
theorem fz_upd_new (R : RepS K B H A s) {p : Addr} {o : HO} (hp : H p = none) (nt : ∀ ps, o ≠ .tbl ps) : Same (Fz B H A s) (Fz B (upd H p o) A s) ∧ Fz B (upd H p o) A s p = some o := by
  refine ⟨fun b u h => ?_, ?_⟩
  · obtain ⟨h1, h2, h3⟩ := fz_of h
    exact fz_to (by rw [upd_ne (ne_of_none h1 hp)]; exact h1) h2 h3 (fz_nt h)
  · exact fz_to upd_same (live_none R hp) (hid_none R hp) nt
/-- a new object that never changes -/
theorem RepS.laid (R : RepS K B H A s) {p : Addr} {o : HO} (hp : H p = none) (nt : ∀ ps, o ≠ .tbl ps := by exact fun _ z => nomatch z) : RepS K B (upd H p o) A s ∧ Ext B H A s (upd H p o) A s ∧ Fz B (upd H p o) A s p = some o := by
  obtain ⟨e1, e2⟩ := fz_upd_new (o := o) R hp nt
  have ne : ∀ a, H a ≠ none → a ≠ p := fun a ha z => ha (by rw [z]; exact hp)
  refine ⟨⟨R.len, R.inj, fun a ha => ?_, fun b hb => ?_, R.ab, fun b hb => ?_, fun a ha => by rw [upd_ne (ne a (R.hd a ha))]; exact R.hx a ha, tabs_new R.tb hp, fun l mo h => ?_⟩, ⟨e1, fun _ _ h => h, fun b hb => upd_ne (ne b (R.hb b hb))⟩, e2⟩
  · rw [upd_ne (ne a (R.hd a ha))]; exact R.hd a ha
  · rw [upd_ne (ne b (R.hb b hb))]; exact R.hb b hb
  · rw [upd_ne (ne b (R.hb b hb))]; exact R.ht b hb
  · obtain ⟨a, ha, ho⟩ := R.ob l mo h
    exact ⟨a, ha, ho.mono e1 (fun _ _ h => h) (upd_ne (ne a (R.hd a (List.mem_of_getElem? ha))))⟩
theorem live_app {p : Addr} {mo : MO} {a : Addr} (hl : A.length = s.length) (lv : mo.live = true := by rfl) : Live (A ++ [p]) (s ++ [some mo]) a ↔ Live A s a ∨ a = p := by
  constructor
  · rintro ⟨l, mo', h1, h2, h3⟩
    rcases Nat.lt_or_ge l s.length with hlt | hge
    · rw [List.getElem?_append_left hlt] at h1
      rw [List.getElem?_append_left (by omega)] at h2
      exact .inl ⟨l, mo', h1, h2, h3⟩
    · rw [List.getElem?_append_right (by omega)] at h2
      have e : l - A.length = 0 := by
        rcases Nat.eq_zero_or_pos (l - A.length) with z | z
        · exact z
        · rw [List.getElem?_eq_none (by simp only [List.length_singleton]; omega)] at h2; cases h2
      rw [e] at h2
      exact .inr (Option.some.inj h2).symm
  · rintro (⟨l, mo', h1, h2, h3⟩ | rfl)
    · have hlt := (List.getElem?_eq_some_iff.mp h1).1
      exact ⟨l, mo', by rw [List.getElem?_append_left hlt]; exact h1, by rw [List.getElem?_append_left (by omega)]; exact h2, h3⟩
    · exact ⟨s.length, mo, by simp, by rw [← hl]; simp, lv⟩
theorem pre_app {A : List Addr} {p : Addr} : ∀ (l : Nat) (a : Addr), A[l]? = some a → (A ++ [p])[l]? = some a := fun l a h => by
  have hlt := (List.getElem?_eq_some_iff.mp h).1
  rw [List.getElem?_append_left hlt]; exact h
/-- a new object that may change -/
theorem RepS.born (R : RepS K B H A s) {p : Addr} {o : HO} {mo : MO} (hp : H p = none) (new : ObR K (Fz B H A s) A (upd H p o) p mo) (lv : mo.live = true := by rfl) :
    RepS K B (upd H p o) (A ++ [p]) (s ++ [some mo]) ∧ Ext B H A s (upd H p o) (A ++ [p]) (s ++ [some mo]) := by
  have ne : ∀ a, H a ≠ none → a ≠ p := fun a ha z => ha (by rw [z]; exact hp)
  have e1 : Same (Fz B H A s) (Fz B (upd H p o) (A ++ [p]) (s ++ [some mo])) := fun b u h => by
    obtain ⟨h1, h2, h3⟩ := fz_of h
    have nb : b ≠ p := ne_of_none h1 hp
    exact fz_to (by rw [upd_ne nb]; exact h1) (fun z => ((live_app R.len lv).mp z).elim h2 nb) h3 (fz_nt h)
  have npA : p ∉ A := fun h => R.hd p h hp
  refine ⟨⟨by simp [R.len], ?_, fun a ha => ?_, fun b hb => ?_, fun b hb => ?_, fun b hb => by rw [upd_ne (ne b (R.hb b hb))]; exact R.ht b hb, fun a ha ps z => by
      rcases List.mem_append.mp ha with ha | ha
      · rw [upd_ne (ne a (R.hd a ha))] at z; exact R.hx a ha ps z
      · rw [List.mem_singleton.mp ha] at z; exact (obr_hid new _ z).1 ps rfl, tabs_new R.tb hp, fun l mo' h => ?_⟩, ⟨e1, pre_app, fun b hb => upd_ne (ne b (R.hb b hb))⟩⟩
  · rw [List.nodup_append]
    refine ⟨R.inj, by simp, fun a ha b hb z => ?_⟩
    have : b = p := by simpa using hb
    subst this; subst z
    exact npA ha
  · rcases List.mem_append.mp ha with ha | ha
    · rw [upd_ne (ne a (R.hd a ha))]; exact R.hd a ha
    · have : a = p := by simpa using ha
      subst this; rw [upd_same]; exact fun z => nomatch z
  · rw [upd_ne (ne b (R.hb b hb))]; exact R.hb b hb
  · intro z
    rcases List.mem_append.mp z with z | z
    · exact R.ab b hb z
    · have : b = p := by simpa using z
      subst this; exact R.hb b hb hp
  · rcases Nat.lt_or_ge l s.length with hlt | hge
    · rw [List.getElem?_append_left hlt] at h
      obtain ⟨a, ha, ho⟩ := R.ob l mo' h
      exact ⟨a, pre_app _ _ ha, ho.mono e1 pre_app (upd_ne (ne a (R.hd a (List.mem_of_getElem? ha))))⟩
    · rw [List.getElem?_append_right hge] at h
      have e : l - s.length = 0 := by
        rcases Nat.eq_zero_or_pos (l - s.length) with z | z
        · exact z
        · rw [List.getElem?_eq_none (by simp only [List.length_singleton]; omega)] at h; cases h
      rw [e] at h
      have h' : mo = mo' := by simpa using h
      subst h'
      have : l = s.length := by omega
      subst this
      exact ⟨p, by rw [← R.len]; simp, new.mono e1 pre_app rfl⟩
theorem nodup_get {A : List Addr} (h : A.Nodup) {i j : Nat} {a : Addr} (x : A[i]? = some a) (y : A[j]? = some a) : i = j := by
  obtain ⟨h1, e1⟩ := List.getElem?_eq_some_iff.mp x
  obtain ⟨h2, e2⟩ := List.getElem?_eq_some_iff.mp y
  exact (List.getElem_inj h).mp (e1.trans e2.symm)
theorem live_set (R : RepS K B H A s) {l : Nat} {mo mo' : MO} (h : s[l]? = some (some mo)) {a : Addr} (lv : mo.live = true) (lv' : mo'.live = true) : Live A (s.set l (some mo')) a ↔ Live A s a := by
  have hl := (List.getElem?_eq_some_iff.mp h).1
  constructor
  · rintro ⟨k, m, h1, h2, h3⟩
    by_cases e : l = k
    · subst e; exact ⟨l, mo, h, h2, lv⟩
    · rw [List.getElem?_set_ne e] at h1; exact ⟨k, m, h1, h2, h3⟩
  · rintro ⟨k, m, h1, h2, h3⟩
    by_cases e : l = k
    · subst e; exact ⟨l, mo', List.getElem?_set_self hl, h2, lv'⟩
    · exact ⟨k, m, by rw [List.getElem?_set_ne e]; exact h1, h2, h3⟩
/-- an object changes -/
theorem RepS.write (R : RepS K B H A s) {l : Nat} {a : Addr} {o : HO} {mo mo' : MO} (h : s[l]? = some (some mo)) (ha : A[l]? = some a) (new : ObR K (Fz B H A s) A (upd H a o) a mo') (lv : mo.live = true := by rfl) (lv' : mo'.live = true := by rfl) :
    RepS K B (upd H a o) A (s.set l (some mo')) ∧ Ext B H A s (upd H a o) A (s.set l (some mo')) := by
  have hl := (List.getElem?_eq_some_iff.mp h).1
  have haA : a ∈ A := List.mem_of_getElem? ha
  have e1 : Same (Fz B H A s) (Fz B (upd H a o) A (s.set l (some mo'))) := fun b u q => by
    obtain ⟨h1, h2, h3⟩ := fz_of q
    have nb : b ≠ a := fun z => h2 ⟨l, mo, h, by rw [z]; exact ha, lv⟩
    exact fz_to (by rw [upd_ne nb]; exact h1) (fun z => h2 ((live_set R h lv lv').mp z)) h3 (fz_nt q)
  refine ⟨⟨by simp [R.len], R.inj, fun c hc => ?_, fun b hb => ?_, R.ab, fun b hb => by rw [upd_ne (fun z => R.ab b hb (by rw [z]; exact haA))]; exact R.ht b hb, fun c hc ps z => by
      by_cases e : c = a
      · rw [e] at z; exact (obr_hid new _ z).1 ps rfl
      · rw [upd_ne e] at z; exact R.hx c hc ps z, tabs_upd R.tb (by obtain ⟨b, hb, ho⟩ := R.ob l mo h; rw [ha] at hb; cases hb; exact obr_hid ho), fun k m q => ?_⟩, ⟨e1, fun _ _ z => z, fun b hb => upd_ne (fun z => R.ab b hb (by rw [z]; exact haA))⟩⟩
  · by_cases e : c = a
    · subst e; rw [upd_same]; exact fun z => nomatch z
    · rw [upd_ne e]; exact R.hd c hc
  · rw [upd_ne (fun z => R.ab b hb (by rw [z]; exact haA))]; exact R.hb b hb
  · by_cases e : l = k
    · subst e
      rw [List.getElem?_set_self hl] at q
      have q' : mo' = m := by simpa using q
      subst q'
      exact ⟨a, ha, new.mono e1 (fun _ _ z => z) rfl⟩
    · rw [List.getElem?_set_ne e] at q
      obtain ⟨c, hc, ho⟩ := R.ob k m q
      have nc : c ≠ a := fun z => e (nodup_get R.inj ha (by rw [← z]; exact hc))
      exact ⟨c, hc, ho.mono e1 (fun _ _ z => z) (upd_ne nc)⟩
/-- an object changes no more -/
theorem RepS.freeze (R : RepS K B H A s) {l : Nat} {a : Addr} {mo : MO} (h : s[l]? = some (some mo)) (ha : A[l]? = some a) :
    RepS K B H A (s.set l none) ∧ Ext B H A s H A (s.set l none) ∧ (∀ o, H a = some o → Fz B H A (s.set l none) a = some o) := by
  have hl := (List.getElem?_eq_some_iff.mp h).1
  have haA : a ∈ A := List.mem_of_getElem? ha
  have lv : ∀ b, Live A (s.set l none) b → Live A s b ∧ b ≠ a := by
    rintro b ⟨k, m, h1, h2, h3⟩
    by_cases e : l = k
    · subst e; rw [List.getElem?_set_self hl] at h1; cases h1
    · rw [List.getElem?_set_ne e] at h1
      exact ⟨⟨k, m, h1, h2, h3⟩, fun z => e (nodup_get R.inj ha (by rw [← z]; exact h2))⟩
  have e1 : Same (Fz B H A s) (Fz B H A (s.set l none)) := fun b u q => by
    obtain ⟨h1, h2, h3⟩ := fz_of q
    exact fz_to h1 (fun z => h2 (lv b z).1) h3 (fz_nt q)
  refine ⟨⟨by simp [R.len], R.inj, R.hd, R.hb, R.ab, R.ht, R.hx, R.tb, fun k m q => ?_⟩, ⟨e1, fun _ _ z => z, fun _ _ => rfl⟩, fun o q => fz_to q (fun z => (lv a z).2 rfl) (fun z => R.ab a z haA) (by obtain ⟨b, hb, ho⟩ := R.ob l mo h; rw [ha] at hb; cases hb; exact (obr_hid ho o q).1)⟩
  by_cases e : l = k
  · subst e; rw [List.getElem?_set_self hl] at q; cases q
  · rw [List.getElem?_set_ne e] at q
    obtain ⟨c, hc, ho⟩ := R.ob k m q
    exact ⟨c, hc, ho.mono e1 (fun _ _ z => z) rfl⟩
end
/-- a tuple that is tracked is a datum -/
theorem RepS.tup_fz {K : PySem.W.Frag} {B : List Addr} {H : Hp} {A : List Addr} {s : Sto} (R : RepS K B H A s) {a : Addr} {vs : List V} (h : H a = some (.tup vs)) : Fz B H A s a = some (.tup vs) :=
  fz_to h (fun ⟨l, mo, h1, h2, _⟩ => by
    obtain ⟨b, hb, ho⟩ := R.ob l mo h1
    rw [h2] at hb
    cases hb
    exact ho.ntup vs h) fun hb => (R.ht a hb _ h).t vs rfl
structure RepE (K : PySem.W.Frag) (F : Hp) (A : List Addr) (env : En) (σ : L2.St) : Prop where
  len : env.length = σ.length
  get : ∀ (i : Nat) (d : D), env[i]? = some (some d) → ∃ v, σ[i]? = some (some v) ∧ Dat K F A d v
theorem RepE.ext {K : PySem.W.Frag} {B : List Addr} {H H' : Hp} {A A' : List Addr} {s s' : Sto} {env : En} {σ : L2.St} (h : RepE K (Fz B H A s) A env σ) (e : Ext B H A s H' A' s') : RepE K (Fz B H' A' s') A' env σ :=
  ⟨h.len, fun i d q => let ⟨v, h1, h2⟩ := h.get i d q; ⟨v, h1, h2.ext e⟩⟩
theorem RepE.set {K : PySem.W.Frag} {F : Hp} {A : List Addr} {env : En} {σ : L2.St} (h : RepE K F A env σ) (i : Nat) {d : D} {v : V} (hd : Dat K F A d v) : RepE K F A (env.set i (some d)) (σ.set i (some v)) := by
  refine ⟨by simp [h.len], fun j e q => ?_⟩
  by_cases hj : i = j
  · subst hj
    have hi : i < env.length := by
      have := (List.getElem?_eq_some_iff.mp q).1
      simpa using this
    rw [List.getElem?_set_self hi] at q
    have q' : d = e := by simpa using q
    subst q'
    exact ⟨v, List.getElem?_set_self (by rw [← h.len]; exact hi), hd⟩
  · rw [List.getElem?_set_ne hj] at q
    obtain ⟨v', h1, h2⟩ := h.get j e q
    exact ⟨v', by rw [List.getElem?_set_ne hj]; exact h1, h2⟩
def wipeE (env : En) : List Nat → En
  | [] => env
  | v :: vs => (wipeE env vs).set v none
theorem wipeE_length (env : En) : ∀ vs : List Nat, (wipeE env vs).length = env.length
  | [] => rfl
  | v :: vs => by unfold wipeE; rw [List.length_set, wipeE_length env vs]
theorem RepE.wipe {K : PySem.W.Frag} {F : Hp} {A : List Addr} {env : En} {σ : L2.St} (h : RepE K F A env σ) : ∀ vs : List Nat, RepE K F A (wipeE env vs) (L2.wipe σ vs)
  | [] => h
  | v :: vs => by
    have ih := RepE.wipe h vs
    refine ⟨by unfold wipeE L2.wipe; simp [ih.len], fun j e q => ?_⟩
    unfold wipeE at q
    by_cases hj : v = j
    · subst hj
      have hi : v < (wipeE env vs).length := by
        have := (List.getElem?_eq_some_iff.mp q).1
        simpa using this
      rw [List.getElem?_set_self hi] at q
      cases q
    · rw [List.getElem?_set_ne hj] at q
      obtain ⟨v', h1, h2⟩ := ih.get j e q
      exact ⟨v', by unfold L2.wipe; rw [List.getElem?_set_ne hj]; exact h1, h2⟩
end Dl
set_option Elab.async false
set_option linter.all false
set_option autoImplicit false
set_option maxRecDepth 100000
set_option maxHeartbeats 600000
namespace Od
open Classical
section
variable {α : Type} (W : Nat → List α) (ln kd : α → Nat) (n : Nat)
/-- all splits from a place on -/
noncomputable def alls : Nat → Nat → List (List α)
  | f, i => if n ≤ i then [[]] else match f with
    | 0 => []
    | f + 1 => (W i).flatMap fun x => (alls f (i + ln x)).map (x :: ·)
noncomputable def all (i : Nat) : List (List α) := alls W ln n (n - i) i
structure Ok (le : Nat → List α → List α → Bool) : Prop where
  st : ∀ i x, x ∈ W i → i < n ∧ 1 ≤ ln x ∧ i + ln x ≤ n
  nd : ∀ i, (W i).Nodup
  tot : ∀ k a b, (le k a b || le k b a) = true
  tr : ∀ k a b c, le k a b = true → le k b c = true → le k a c = true
  as : ∀ i k a b, a ∈ all W ln n i → b ∈ all W ln n i → le k a b = true → le k b a = true → a = b
  mono : ∀ k x a b, le k (x :: a) (x :: b) = le (kd x) a b
variable {W ln kd n}
theorem all_end {i : Nat} (h : n ≤ i) : all W ln n i = [[]] := by
  unfold all
  unfold alls
  rw [if_pos h]
theorem all_at {le : Nat → List α → List α → Bool} (O : Ok W ln kd n le) {i : Nat} (h : i < n) : all W ln n i = (W i).flatMap fun x => (all W ln n (i + ln x)).map (x :: ·) := by
  have key : ∀ f i, n - i ≤ f → i < n → alls W ln n f i = (W i).flatMap fun x => (all W ln n (i + ln x)).map (x :: ·) := by
    intro f
    induction f using Nat.strongRecOn with
    | _ f ih =>
    intro i hf hi
    cases f with
    | zero => omega
    | succ f =>
      unfold alls
      rw [if_neg (by omega)]
      dsimp only
      have he : ∀ x ∈ W i, (alls W ln n f (i + ln x)).map (x :: ·) = (all W ln n (i + ln x)).map (x :: ·) := fun x hx => by
        obtain ⟨_, h1, h2⟩ := O.st i x hx
        congr 1
        by_cases hn : n ≤ i + ln x
        · rw [all_end hn]
          unfold alls
          rw [if_pos hn]
        · rw [ih f (by omega) (i + ln x) (by omega) (by omega)]
          show _ = alls W ln n (n - (i + ln x)) (i + ln x)
          rw [ih (n - (i + ln x)) (by omega) (i + ln x) (Nat.le_refl _) (by omega)]
      rw [List.flatMap_def, List.flatMap_def, List.map_congr_left he]
  exact key (n - i) i (Nat.le_refl _) h
theorem mem_all {le : Nat → List α → List α → Bool} (O : Ok W ln kd n le) {i : Nat} (h : i < n) {l : List α} : l ∈ all W ln n i ↔ ∃ x t, l = x :: t ∧ x ∈ W i ∧ t ∈ all W ln n (i + ln x) := by
  rw [all_at O h, List.mem_flatMap]
  constructor
  · rintro ⟨x, hx, hl⟩
    obtain ⟨t, ht, rfl⟩ := List.mem_map.mp hl
    exact ⟨x, t, rfl, hx, ht⟩
  · rintro ⟨x, t, rfl, hx, ht⟩
    exact ⟨x, hx, List.mem_map.mpr ⟨t, ht, rfl⟩⟩
theorem W_end {le : Nat → List α → List α → Bool} (O : Ok W ln kd n le) {i : Nat} (h : n ≤ i) : W i = [] := by
  cases e : W i with
  | nil => rfl
  | cons x l => have := (O.st i x (by rw [e]; exact List.mem_cons_self)).1; omega
/-- those that begin with x -/
theorem all_hd {le : Nat → List α → List α → Bool} (O : Ok W ln kd n le) {i : Nat} (h : i < n) {x : α} (hx : x ∈ W i) : (all W ln n i).filter (fun l => decide (l.head? = some x)) = (all W ln n (i + ln x)).map (x :: ·) := by
  rw [all_at O h]
  have nd := O.nd i
  revert nd hx
  generalize W i = l
  intro hx nd
  induction l with
  | nil => cases hx
  | cons y l ih =>
    obtain ⟨n1, n2⟩ := List.nodup_cons.mp nd
    rw [List.flatMap_cons, List.filter_append]
    have hself : ∀ z, ((all W ln n (i + ln z)).map (z :: ·)).filter (fun l => decide (l.head? = some x)) = if z = x then (all W ln n (i + ln z)).map (z :: ·) else [] := fun z => by
      by_cases hz : z = x
      · rw [if_pos hz, List.filter_eq_self]
        intro l hl
        obtain ⟨t, _, rfl⟩ := List.mem_map.mp hl
        exact decide_eq_true (by rw [hz]; rfl)
      · rw [if_neg hz, List.filter_eq_nil_iff]
        intro l hl
        obtain ⟨t, _, rfl⟩ := List.mem_map.mp hl
        intro e
        have e := of_decide_eq_true e
        exact hz (Option.some.inj e)
    rw [hself]
    rcases List.mem_cons.mp hx with rfl | hx
    · rw [if_pos rfl]
      have hno : (l.flatMap fun z => (all W ln n (i + ln z)).map (z :: ·)).filter (fun l => decide (l.head? = some x)) = [] := by
        rw [List.filter_eq_nil_iff]
        intro t ht
        obtain ⟨z, hz, ht⟩ := List.mem_flatMap.mp ht
        obtain ⟨u, _, rfl⟩ := List.mem_map.mp ht
        intro e
        have e := Option.some.inj (of_decide_eq_true e)
        exact n1 (e ▸ hz)
      rw [hno, List.append_nil]
    · rw [if_neg (fun e => n1 (by rw [e]; exact hx)), List.nil_append]
      exact ih hx n2
theorem all_ne {le : Nat → List α → List α → Bool} (O : Ok W ln kd n le) (hW : ∀ i, i < n → W i ≠ []) : ∀ i, all W ln n i ≠ [] := by
  have key : ∀ d i, n - i ≤ d → all W ln n i ≠ [] := by
    intro d
    induction d with
    | zero => intro i h; rw [all_end (by omega)]; simp
    | succ d ih =>
      intro i h
      by_cases hn : n ≤ i
      · rw [all_end hn]; simp
      obtain ⟨x, l, e⟩ := List.exists_cons_of_ne_nil (hW i (by omega))
      have hx : x ∈ W i := by rw [e]; exact List.mem_cons_self
      obtain ⟨h1, h2, h3⟩ := O.st i x hx
      obtain ⟨t, u, e2⟩ := List.exists_cons_of_ne_nil (ih (i + ln x) (by omega))
      intro h0
      have : (x :: t) ∈ all W ln n i := (mem_all O (by omega)).mpr ⟨x, t, rfl, hx, by rw [e2]; exact List.mem_cons_self⟩
      rw [h0] at this
      cases this
  exact fun i => key (n - i) i (Nat.le_refl _)
variable (W ln n)
noncomputable def srt (le : Nat → List α → List α → Bool) (i k : Nat) : List (List α) := (all W ln n i).mergeSort (le k)
variable {W ln n}
variable {le : Nat → List α → List α → Bool}
theorem srt_perm (i k : Nat) : (srt W ln n le i k).Perm (all W ln n i) := List.mergeSort_perm _ _
theorem srt_pair (O : Ok W ln kd n le) (i k : Nat) : (srt W ln n le i k).Pairwise fun a b => le k a b = true :=
  List.pairwise_mergeSort (fun a b c => O.tr k a b c) (fun a b => O.tot k a b) _
theorem srt_end {i : Nat} (h : n ≤ i) (k : Nat) : srt W ln n le i k = [[]] := by
  unfold srt
  rw [all_end h]
  exact List.mergeSort_singleton _
/-- two lists in order of the same things are one -/
theorem sorted_eq {r : List α → List α → Bool} : ∀ {a b : List (List α)}, (∀ x ∈ a, ∀ y ∈ a, r x y = true → r y x = true → x = y) → a.Perm b → a.Pairwise (fun x y => r x y = true) → b.Pairwise (fun x y => r x y = true) → a = b
  | [], b, _, p, _, _ => p.nil_eq
  | x :: a, [], _, p, _, _ => by cases p.symm.nil_eq
  | x :: a, y :: b, as, p, h1, h2 => by
    obtain ⟨h1a, h1b⟩ := List.pairwise_cons.mp h1
    obtain ⟨h2a, h2b⟩ := List.pairwise_cons.mp h2
    have e : x = y := by
      rcases List.mem_cons.mp (p.mem_iff.mp List.mem_cons_self : x ∈ y :: b) with e | hx
      · exact e
      rcases List.mem_cons.mp (p.mem_iff.mpr List.mem_cons_self : y ∈ x :: a) with e | hy
      · exact e.symm
      exact as x List.mem_cons_self y (List.mem_cons_of_mem _ hy) (h1a y hy) (h2a x hx)
    subst e
    rw [sorted_eq (fun u hu v hv => as u (List.mem_cons_of_mem _ hu) v (List.mem_cons_of_mem _ hv)) (List.perm_cons x |>.mp p) h1b h2b]
/-- those that begin with x stand in the order of their rests -/
theorem srt_hd (O : Ok W ln kd n le) {i k : Nat} (h : i < n) {x : α} (hx : x ∈ W i) : (srt W ln n le i k).filter (fun l => decide (l.head? = some x)) = (srt W ln n le (i + ln x) (kd x)).map (x :: ·) := by
  refine sorted_eq (r := le k) ?_ ?_ ((srt_pair O i k).filter _) ?_
  · intro a ha b hb h1 h2
    exact O.as i k a b ((srt_perm i k).mem_iff.mp (List.mem_filter.mp ha).1) ((srt_perm i k).mem_iff.mp (List.mem_filter.mp hb).1) h1 h2
  · refine ((srt_perm i k).filter _).trans ?_
    rw [all_hd O h hx]
    exact ((srt_perm _ _).map _).symm
  · rw [List.pairwise_map]
    exact (srt_pair O _ _).imp fun {a b} h => by rw [O.mono]; exact h
theorem fm_congr {β γ : Type} {f g : β → Option γ} : ∀ {l : List β}, (∀ x ∈ l, f x = g x) → l.filterMap f = l.filterMap g
  | [], _ => rfl
  | x :: l, h => by
    rw [List.filterMap_cons, List.filterMap_cons, h x List.mem_cons_self, fm_congr fun y hy => h y (List.mem_cons_of_mem _ hy)]
variable (W ln n)
/-- how many of the first f begin with x -/
noncomputable def cx (le : Nat → List α → List α → Bool) (i k f : Nat) (x : α) : Nat := (((srt W ln n le i k).take f).filter fun l => decide (l.head? = some x)).length
variable (kd)
noncomputable def cand (le : Nat → List α → List α → Bool) (i k f : Nat) (x : α) : Option (List α × α × Nat) := ((srt W ln n le (i + ln x) (kd x))[cx W ln n le i k f x]?).map fun t => (x :: t, x, cx W ln n le i k f x)
noncomputable def canon (le : Nat → List α → List α → Bool) (i k f : Nat) : List (List α × α × Nat) := (W i).filterMap (cand W ln kd n le i k f)
variable {W ln n kd}
theorem hd_split (O : Ok W ln kd n le) {i k f : Nat} (h : i < n) {x : α} (hx : x ∈ W i) : (srt W ln n le (i + ln x) (kd x)).map (x :: ·) = ((srt W ln n le i k).take f).filter (fun l => decide (l.head? = some x)) ++ ((srt W ln n le i k).drop f).filter (fun l => decide (l.head? = some x)) := by
  rw [← srt_hd O h hx, ← List.filter_append, List.take_append_drop]
/-- the head of what begins with x stands behind the first f -/
theorem cand_mem (O : Ok W ln kd n le) {i k f : Nat} (h : i < n) {x : α} (hx : x ∈ W i) {e : List α × α × Nat} (he : cand W ln kd n le i k f x = some e) : ∃ t, e = (x :: t, x, cx W ln n le i k f x) ∧ (srt W ln n le (i + ln x) (kd x))[cx W ln n le i k f x]? = some t ∧ (x :: t) ∈ (srt W ln n le i k).drop f := by
  unfold cand at he
  obtain ⟨t, ht, rfl⟩ := Option.map_eq_some_iff.mp he
  refine ⟨t, rfl, ht, ?_⟩
  have hs := hd_split (k := k) (f := f) O h hx
  have h1 : ((srt W ln n le (i + ln x) (kd x)).map (x :: ·))[cx W ln n le i k f x]? = some (x :: t) := by rw [List.getElem?_map, ht]; rfl
  rw [hs, List.getElem?_append_right (by unfold cx; exact Nat.le_refl _)] at h1
  exact (List.mem_filter.mp (List.mem_of_getElem? h1)).1
theorem srt_mem (O : Ok W ln kd n le) {i k : Nat} {l : List α} : l ∈ srt W ln n le i k ↔ l ∈ all W ln n i := (srt_perm i k).mem_iff
/-- the next one is a head -/
theorem next_mem (O : Ok W ln kd n le) {i k f : Nat} (h : i < n) {y : List α} (hy : (srt W ln n le i k)[f]? = some y) : ∃ x t, y = x :: t ∧ x ∈ W i ∧ cand W ln kd n le i k f x = some (y, x, cx W ln n le i k f x) ∧ (srt W ln n le (i + ln x) (kd x))[cx W ln n le i k f x]? = some t := by
  obtain ⟨x, t, rfl, hx, ht⟩ := (mem_all O h).mp ((srt_mem O).mp (List.mem_of_getElem? hy))
  have hf := (List.getElem?_eq_some_iff.mp hy).1
  have hs := hd_split (k := k) (f := f) O h hx
  have hd : (srt W ln n le i k).drop f = (x :: t) :: (srt W ln n le i k).drop (f + 1) := by
    rw [List.drop_eq_getElem_cons hf]
    rw [(List.getElem?_eq_some_iff.mp hy).2]
  have h1 : ((srt W ln n le (i + ln x) (kd x)).map (x :: ·))[cx W ln n le i k f x]? = some (x :: t) := by
    rw [hs, List.getElem?_append_right (by unfold cx; exact Nat.le_refl _), hd, List.filter_cons_of_pos (by simp)]
    rw [show cx W ln n le i k f x - (((srt W ln n le i k).take f).filter fun l => decide (l.head? = some x)).length = 0 from Nat.sub_self _]; rfl
  rw [List.getElem?_map] at h1
  obtain ⟨t', ht', e⟩ := Option.map_eq_some_iff.mp h1
  have : t' = t := (List.cons.inj e).2
  subst this
  refine ⟨x, t', rfl, hx, ?_, ht'⟩
  unfold cand
  rw [ht']; rfl
/-- .. and the least of them -/
theorem next_least (O : Ok W ln kd n le) {i k f : Nat} (h : i < n) {y : List α} (hy : (srt W ln n le i k)[f]? = some y) : ∀ e ∈ canon W ln kd n le i k f, le k y e.1 = true := fun e he => by
  unfold canon at he
  obtain ⟨x, hx, he⟩ := List.mem_filterMap.mp he
  obtain ⟨t, rfl, _, hm⟩ := cand_mem O h hx he
  have hf := (List.getElem?_eq_some_iff.mp hy).1
  rw [List.drop_eq_getElem_cons hf, (List.getElem?_eq_some_iff.mp hy).2] at hm
  have hp := (srt_pair O i k).drop (i := f)
  rw [List.drop_eq_getElem_cons hf, (List.getElem?_eq_some_iff.mp hy).2] at hp
  show le k y (x :: t) = true
  rcases List.mem_cons.mp hm with e | hm
  · rw [e]
    have := O.tot k y y
    rw [Bool.or_self] at this
    exact this
  · exact (List.pairwise_cons.mp hp).1 _ hm
theorem canon_all (O : Ok W ln kd n le) {i k f : Nat} (h : i < n) {e : List α × α × Nat} (he : e ∈ canon W ln kd n le i k f) : e.1 ∈ all W ln n i ∧ e.2.1 ∈ W i ∧ e.1.head? = some e.2.1 := by
  unfold canon at he
  obtain ⟨x, hx, he⟩ := List.mem_filterMap.mp he
  obtain ⟨t, rfl, _, hm⟩ := cand_mem O h hx he
  exact ⟨(srt_mem O).mp (List.mem_of_mem_drop hm), hx, rfl⟩
theorem canon_in (O : Ok W ln kd n le) {i k f : Nat} (h : i < n) {y : List α} (hy : (srt W ln n le i k)[f]? = some y) : ∃ x t, y = x :: t ∧ x ∈ W i ∧ (y, x, cx W ln n le i k f x) ∈ canon W ln kd n le i k f := by
  obtain ⟨x, t, e, hx, hc, _⟩ := next_mem O h hy
  exact ⟨x, t, e, hx, List.mem_filterMap.mpr ⟨x, hx, hc⟩⟩
theorem canon_nil (O : Ok W ln kd n le) {i k f : Nat} (h : i < n) : canon W ln kd n le i k f = [] ↔ (srt W ln n le i k).length ≤ f := by
  constructor
  · intro e
    rcases Nat.lt_or_ge f (srt W ln n le i k).length with hf | hf
    · obtain ⟨x, t, _, _, hm⟩ := canon_in O h (List.getElem?_eq_getElem hf)
      rw [e] at hm; cases hm
    · exact hf
  · intro hf
    unfold canon
    rw [List.filterMap_eq_nil_iff]
    intro x hx
    unfold cand
    have hs := srt_hd (k := k) O h hx
    have hc : cx W ln n le i k f x = (srt W ln n le (i + ln x) (kd x)).length := by
      unfold cx
      rw [List.take_of_length_le hf, hs, List.length_map]
    rw [hc, List.getElem?_eq_none (Nat.le_refl _)]; rfl
theorem canon_zero (O : Ok W ln kd n le) {i k : Nat} : canon W ln kd n le i k 0 = (W i).filterMap fun x => ((srt W ln n le (i + ln x) (kd x))[0]?).map fun t => (x :: t, x, 0) := by
  unfold canon
  congr 1
/-- a step: one goes, its successor comes -/
theorem canon_step (O : Ok W ln kd n le) {i k f : Nat} (h : i < n) {x : α} {t : List α} (hy : (srt W ln n le i k)[f]? = some (x :: t)) (hx : x ∈ W i) :
    cx W ln n le i k (f + 1) x = cx W ln n le i k f x + 1 ∧ ∃ R, (canon W ln kd n le i k f).Perm ((x :: t, x, cx W ln n le i k f x) :: R) ∧ (canon W ln kd n le i k (f + 1)).Perm (R ++ (cand W ln kd n le i k (f + 1) x).toList) := by
  have hf := (List.getElem?_eq_some_iff.mp hy).1
  have ht : (srt W ln n le i k).take (f + 1) = (srt W ln n le i k).take f ++ [x :: t] := by
    rw [List.take_add_one, hy]; rfl
  have hc1 : cx W ln n le i k (f + 1) x = cx W ln n le i k f x + 1 := by
    unfold cx
    rw [ht, List.filter_append, List.length_append, List.filter_cons_of_pos (by simp)]; rfl
  have hc2 : ∀ z, z ≠ x → cand W ln kd n le i k (f + 1) z = cand W ln kd n le i k f z := fun z hz => by
    have : cx W ln n le i k (f + 1) z = cx W ln n le i k f z := by
      unfold cx
      rw [ht, List.filter_append, List.filter_cons_of_neg (by simpa using fun e => hz e.symm)]
      rw [List.filter_nil, List.append_nil]
    unfold cand
    rw [this]
  refine ⟨hc1, ?_⟩
  obtain ⟨x', t', e, _, hcand, _⟩ := next_mem O h hy
  obtain ⟨rfl, rfl⟩ : x = x' ∧ t = t' := ⟨(List.cons.inj e).1, (List.cons.inj e).2⟩
  obtain ⟨A, B, hAB⟩ := List.append_of_mem hx
  have nd := O.nd i
  unfold canon
  rw [hAB] at nd ⊢
  obtain ⟨nA, nB, nAB⟩ := List.nodup_append.mp nd
  obtain ⟨n1, n2⟩ := List.nodup_cons.mp nB
  have eA : A.filterMap (cand W ln kd n le i k (f + 1)) = A.filterMap (cand W ln kd n le i k f) := fm_congr fun z hz => hc2 z fun e => nAB z hz x List.mem_cons_self e
  have eB : B.filterMap (cand W ln kd n le i k (f + 1)) = B.filterMap (cand W ln kd n le i k f) := fm_congr fun z hz => hc2 z fun e => n1 (e ▸ hz)
  refine ⟨A.filterMap (cand W ln kd n le i k f) ++ B.filterMap (cand W ln kd n le i k f), ?_, ?_⟩
  · rw [List.filterMap_append, List.filterMap_cons, hcand]
    exact List.perm_middle
  · rw [List.filterMap_append, List.filterMap_cons, eA, eB]
    cases cand W ln kd n le i k (f + 1) x with
    | none => exact (List.append_nil _).symm ▸ List.Perm.refl _
    | some e => 
      dsimp only [Option.toList]
      exact List.perm_middle.trans (List.perm_append_singleton _ _).symm
end
end Od
set_option Elab.async false
set_option linter.all false
set_option autoImplicit false
set_option maxRecDepth 100000
set_option maxHeartbeats 4000000
namespace Dl
open PySem PySem.Spec PyProof.Rows L2
abbrev ED := En → Sto → (D → Sto → Prop) → Prop
abbrev TD := En → Sto → (Bool → Sto → Prop) → Prop
abbrev AD := En → Sto → (List D → Sto → Prop) → Prop
structure EndsD where
  nx : En → Sto → Prop
  rt : D → Sto → Prop
  bk : En → Sto → Prop
  ct : En → Sto → Prop
abbrev SD := EndsD → En → Sto → Prop
def Mono {α : Type} (t : En → Sto → (α → Sto → Prop) → Prop) : Prop := ∀ (env : En) (s : Sto) (P P' : α → Sto → Prop), (∀ d s', P d s' → P' d s') → t env s P → t env s P'
structure EndsD.Le (a b : EndsD) : Prop where
  nx : ∀ e s, a.nx e s → b.nx e s
  rt : ∀ d s, a.rt d s → b.rt d s
  bk : ∀ e s, a.bk e s → b.bk e s
  ct : ∀ e s, a.ct e s → b.ct e s
def MonoS (t : SD) : Prop := ∀ (a b : EndsD) (env : En) (s : Sto), a.Le b → t a env s → t b env s
theorem EndsD.Le.refl {a : EndsD} : a.Le a := ⟨fun _ _ h => h, fun _ _ h => h, fun _ _ h => h, fun _ _ h => h⟩
section
variable (K : PySem.W.Frag) (B : List Addr) (H : Hp) (A : List Addr) (s : Sto)
def PostE (Q : VK) : D → Sto → Prop := fun d s' => ∀ (v : V) (H' : Hp) (A' : List Addr), RepS K B H' A' s' → Ext B H A s H' A' s' → Dat K (Fz B H' A' s') A' d v → Q v H'
def PostT (Q : Bool → Hp → Prop) : Bool → Sto → Prop := fun b s' => ∀ (H' : Hp) (A' : List Addr), RepS K B H' A' s' → Ext B H A s H' A' s' → Q b H'
def PostA (Q : List V → Hp → Prop) : List D → Sto → Prop := fun d s' => ∀ (v : List V) (H' : Hp) (A' : List Addr), RepS K B H' A' s' → Ext B H A s H' A' s' → DatL K (Fz B H' A' s') A' d v → Q v H'
def PostN (Q : L2.St → Hp → Prop) : En → Sto → Prop := fun env s' => ∀ (σ : L2.St) (H' : Hp) (A' : List Addr), RepS K B H' A' s' → Ext B H A s H' A' s' → RepE K (Fz B H' A' s') A' env σ → Q σ H'
def PostS (E : Ends) : EndsD := ⟨PostN K B H A s E.nx, PostE K B H A s E.rt, PostN K B H A s E.bk, PostN K B H A s E.ct⟩
end
/-- the known objects, and what is known of every world of a body (z: kept from world to world) -/
structure KK where
  K : PySem.W.Frag
  Z : List Addr → Hp → List Addr → Sto → Prop
  zc : ∀ {B : List Addr} {H H' : Hp} {A A' : List Addr} {s s' : Sto}, Z B H A s → Ext B H A s H' A' s' → Z B H' A' s'
instance : Coe KK PySem.W.Frag := ⟨KK.K⟩
def kk0 (K : PySem.W.Frag) : KK := ⟨K, fun _ _ _ _ => True, fun _ _ => trivial⟩
/-- a world: the store s stands in H, the slots σ hold env -/
structure Wo (K : KK) (B : List Addr) (H : Hp) (A : List Addr) (s : Sto) (env : En) (σ : L2.St) : Prop where
  rs : RepS K.K B H A s
  re : RepE K.K (Fz B H A s) A env σ
  z : K.Z B H A s
theorem Wo.to {K : KK} {B : List Addr} {H H' : Hp} {A A' : List Addr} {s s' : Sto} {env : En} {σ : L2.St} (w : Wo K B H A s env σ) (r : RepS K.K B H' A' s') (e : Ext B H A s H' A' s') : Wo K B H' A' s' env σ := ⟨r, w.re.ext e, K.zc w.z e⟩
def rdE (K : KK) (t : ED) : TE := fun σ H Q => ∃ (env : En) (s : Sto) (A B : List Addr), Wo K B H A s env σ ∧ t env s (PostE K.K B H A s Q)
def rdT (K : KK) (t : TD) : TT := fun σ H Q => ∃ (env : En) (s : Sto) (A B : List Addr), Wo K B H A s env σ ∧ t env s (PostT K.K B H A s Q)
def rdA (K : KK) (t : AD) : TA := fun σ H Q => ∃ (env : En) (s : Sto) (A B : List Addr), Wo K B H A s env σ ∧ t env s (PostA K.K B H A s Q)
def rdS (K : KK) (t : SD) : TS := fun D σ H => ∃ (env : En) (s : Sto) (A B : List Addr), Wo K B H A s env σ ∧ t (PostS K.K B H A s D) env s
/-- an exception: its class's name, its fields -/
abbrev XD := Str → List (Str × D) → Sto → Prop
/-- .. with the slots where it was raised -/
abbrev WXD := Str → List (Str × D) → En → Sto → Prop
def XRep (K : PySem.W.Frag) (F : Hp) (A : List Addr) (fs : List (Str × D)) (dx : Option Addr) : Prop :=
  (fs = [] ∧ dx = none) ∨ fs ≠ [] ∧ ∃ d fvs, dx = some d ∧ F d = some (.xd fvs) ∧ fvs.map (·.1) = fs.map (·.1) ∧ DatL K F A (fs.map (·.2)) (fvs.map (·.2))
/-- a body's place, and what may leave it -/
structure DX extends Cx where
  W : WX
  tk : Takes toCx W
  Z : List Addr → Hp → List Addr → Sto → Prop
  zc : ∀ {B : List Addr} {H H' : Hp} {A A' : List Addr} {s s' : Sto}, Z B H A s → Ext B H A s H' A' s' → Z B H' A' s'
  WD : WXD
  wd : ∀ (x : Str) (fs : List (Str × D)) (env : En) (s' : Sto) (cls : Value) (dx : Option Addr) (σ : L2.St) (B : List Addr) (H' : Hp) (A' : List Addr), Wo ⟨K, Z, zc⟩ B H' A' s' env σ → mg x = some cls → XRep K (Fz B H' A' s') A' fs dx → WD x fs env s' → W cls dx σ H'
instance : CoeOut DX Cx := ⟨DX.toCx⟩
abbrev DX.kk (X : DX) : KK := ⟨X.K, X.Z, X.zc⟩
/-- nothing is raised -/
abbrev dx0 (X : Cx) : DX := { X with W := fun _ _ _ _ => False, tk := takes0, Z := fun _ _ _ _ => True, zc := fun _ _ => trivial, WD := fun _ _ _ _ => False, wd := fun _ _ _ _ _ _ _ _ _ _ _ _ _ h => h.elim }
structure PD (X : DX) (e : Expr) (t : ED) : Prop where
  pe : PE X e (rdE X.kk t)
  mono : Mono t
structure PTD (X : DX) (e : Expr) (t : TD) : Prop where
  pt : PT X e (rdT X.kk t)
  mono : Mono t
structure PWD (X : DX) (e : Expr) (t : TD) : Prop where
  pw : PW X e (rdT X.kk t)
  mono : Mono t
structure PAD (X : DX) (es : List Expr) (t : AD) : Prop where
  pa : PA X es (rdA X.kk t)
  mono : Mono t
structure PSD (X : DX) (st : Stmt) (t : SD) : Prop where
  ps : PS X st (rdS X.kk t)
  mono : MonoS t
structure PSsD (X : DX) (sts : List Stmt) (t : SD) : Prop where
  pss : PSs X sts (rdS X.kk t)
  mono : MonoS t
theorem pe_imp {X : Cx} {e : Expr} {t t' : TE} (h : PE X e t) (f : ∀ σ H Q, t' σ H Q → t σ H Q) : PE X e t' := ⟨fun pins s σ H Q I q => h.run pins s σ H Q I (f σ H Q q)⟩
theorem pt_imp {X : Cx} {e : Expr} {t t' : TT} (h : PT X e t) (f : ∀ σ H Q, t' σ H Q → t σ H Q) : PT X e t' := ⟨fun pins s σ H Q I q => h.run pins s σ H Q I (f σ H Q q)⟩
theorem pw_imp {X : Cx} {e : Expr} {t t' : TT} (h : PW X e t) (f : ∀ σ H Q, t' σ H Q → t σ H Q) : PW X e t' := ⟨fun wh pins s σ H Q I q => h.run wh pins s σ H Q I (f σ H Q q)⟩
theorem pa_imp {X : Cx} {e : List Expr} {t t' : TA} (h : PA X e t) (f : ∀ σ H Q, t' σ H Q → t σ H Q) : PA X e t' := ⟨fun pos pins s σ H Q I q => h.run pos pins s σ H Q I (f σ H Q q)⟩
theorem ps_imp {X : Cx} {e : Stmt} {t t' : TS} (h : PS X e t) (f : ∀ D σ H, t' D σ H → t D σ H) : PS X e t' := ⟨fun pins s σ H D I q => h.run pins s σ H D I (f D σ H q)⟩
theorem pss_imp {X : Cx} {e : List Stmt} {t t' : TS} (h : PSs X e t) (f : ∀ D σ H, t' D σ H → t D σ H) : PSs X e t' := ⟨fun pins s σ H D I q => h.run pins s σ H D I (f D σ H q)⟩
section
variable {B : List Addr} {H : Hp} {A : List Addr} {s : Sto} {env : En} {σ : L2.St}
/-- go on with a datum -/
theorem rdE_go {K : KK} {t : ED} (m : Mono t) {P : D → Sto → Prop} {Q : VK} (w : Wo K B H A s env σ) (h : t env s P)
    (k : ∀ (d : D) (s' : Sto) (v : V) (H' : Hp) (A' : List Addr), P d s' → Wo K B H' A' s' env σ → Ext B H A s H' A' s' → Dat K (Fz B H' A' s') A' d v → Q v H') : rdE K t σ H Q :=
  ⟨env, s, A, B, w, m _ _ _ _ (fun d s' p v H' A' r e dv => k d s' v H' A' p (w.to r e) e dv) h⟩
theorem rdT_go {K : KK} {t : TD} (m : Mono t) {P : Bool → Sto → Prop} {Q : Bool → Hp → Prop} (w : Wo K B H A s env σ) (h : t env s P)
    (k : ∀ (d : Bool) (s' : Sto) (H' : Hp) (A' : List Addr), P d s' → Wo K B H' A' s' env σ → Ext B H A s H' A' s' → Q d H') : rdT K t σ H Q :=
  ⟨env, s, A, B, w, m _ _ _ _ (fun d s' p H' A' r e => k d s' H' A' p (w.to r e) e) h⟩
theorem rdA_go {K : KK} {t : AD} (m : Mono t) {P : List D → Sto → Prop} {Q : List V → Hp → Prop} (w : Wo K B H A s env σ) (h : t env s P)
    (k : ∀ (d : List D) (s' : Sto) (v : List V) (H' : Hp) (A' : List Addr), P d s' → Wo K B H' A' s' env σ → Ext B H A s H' A' s' → DatL K (Fz B H' A' s') A' d v → Q v H') : rdA K t σ H Q :=
  ⟨env, s, A, B, w, m _ _ _ _ (fun d s' p v H' A' r e dv => k d s' v H' A' p (w.to r e) e dv) h⟩
/-- an end from further on -/
theorem PostE.from {K : PySem.W.Frag} {H1 : Hp} {A1 : List Addr} {s1 : Sto} {Q : VK} {d : D} {s' : Sto} (e : Ext B H A s H1 A1 s1) (h : PostE K B H A s Q d s') : PostE K B H1 A1 s1 Q d s' := fun v H' A' r x dv => h v H' A' r (e.trans x) dv
theorem PostN.from {K : PySem.W.Frag} {H1 : Hp} {A1 : List Addr} {s1 : Sto} {Q : L2.St → Hp → Prop} {d : En} {s' : Sto} (e : Ext B H A s H1 A1 s1) (h : PostN K B H A s Q d s') : PostN K B H1 A1 s1 Q d s' := fun v H' A' r x dv => h v H' A' r (e.trans x) dv
theorem PostS.from {K : PySem.W.Frag} {H1 : Hp} {A1 : List Addr} {s1 : Sto} {E : Ends} (e : Ext B H A s H1 A1 s1) : (PostS K B H A s E).Le (PostS K B H1 A1 s1 E) :=
  ⟨fun _ _ h => PostN.from e h, fun _ _ h => PostE.from e h, fun _ _ h => PostN.from e h, fun _ _ h => PostN.from e h⟩
end
section
def dVar (i : Nat) : ED := fun env s Q => ∃ d, env[i]? = some (some d) ∧ Q d s
theorem mono_var {i : Nat} : Mono (dVar i) := fun _ _ _ _ f ⟨d, e, q⟩ => ⟨d, e, f _ _ q⟩
theorem pd_var {X : DX} (i : Nat) {e : Expr} (h : PE X e (tVar i)) : PD X e (dVar i) := ⟨pe_imp h fun σ H Q ⟨env, s, A, B, w, d, e, q⟩ => by
  obtain ⟨v, h1, h2⟩ := w.re.get i d e
  exact ⟨v, h1, q v H A w.rs .refl h2⟩, mono_var⟩
def dC (d : D) : ED := fun _ s Q => Q d s
theorem mono_c {d : D} : Mono (dC d) := fun _ _ _ _ f q => f _ _ q
/-- a plain constant -/
theorem pd_c {X : DX} {e : Expr} {v : V} {d : D} (h : PE X e (tC v)) (hd : ∀ (F : Hp) (A : List Addr), Dat X.K F A d v) : PD X e (dC d) := ⟨pe_imp h fun σ H Q ⟨env, s, A, B, w, q⟩ => q v H A w.rs .refl (hd _ _), mono_c⟩
theorem pd_int {X : DX} {i : Int} {j : Nat} {pos : Pos} : PD X (.Constant (.int i) j pos) (dC (.int i)) := pd_c pe_int fun _ _ => .int i
theorem pd_bl {X : DX} {b : Bool} {j : Nat} {pos : Pos} : PD X (.Constant (.bool b) j pos) (dC (.bl b)) := pd_c pe_bl fun _ _ => .bl b
theorem pd_non {X : DX} {j : Nat} {pos : Pos} : PD X (.Constant .none j pos) (dC .non) := pd_c pe_non fun _ _ => .non
theorem pd_str {X : DX} {x : Str} {j : Nat} {pos : Pos} (hx : x.length ≤ sizeLine := by decide +kernel) : PD X (.Constant (.str x) j pos) (dC (.str x)) := pd_c pe_str fun _ _ => .str x hx
theorem pd_gint {X : DX} {x : Str} {i : Int} {t : Tok} {pos : Pos} (hg : Gl X x) (hm : X.mg x = some (.int i t)) (hd : (x == ("__debug__" : Str)) = false := by decide) : PD X (.Name x pos) (dC (.int i)) := pd_c (v := .int i) (pe_glob hg hm ⟨t, rfl⟩ hd) fun _ _ => .int i
theorem pd_gstr {X : DX} {x z : Str} {t : Tok} {pos : Pos} (hg : Gl X x) (hm : X.mg x = some (.str z t)) (hz : z.length ≤ sizeLine := by decide +kernel) (hd : (x == ("__debug__" : Str)) = false := by decide) : PD X (.Name x pos) (dC (.str z)) := pd_c (v := .str z) (pe_glob hg hm ⟨t, rfl⟩ hd) fun _ _ => .str z hz
abbrev O2 := D → D → Sto → (D → Sto → Prop) → Prop
def MonoO (o : O2) : Prop := ∀ x y s P P', (∀ d s', P d s' → P' d s') → o x y s P → o x y s P'
/-- an operation by values answers for data -/
def OpX (X : Cx) (f : Value → Value → Sem Value) (o : O2) : Prop := ∃ r, OpR X f r ∧ ∀ (x y : D) (s : Sto) (v w : V) (H : Hp) (A B : List Addr) (Q : VK), RepS X.K B H A s → Dat X.K (Fz B H A s) A x v → Dat X.K (Fz B H A s) A y w → o x y s (PostE X.K B H A s Q) → r v w H Q
theorem OpX.or {X : Cx} {f : Value → Value → Sem Value} {o o' : O2} (h : OpX X f o) (h' : OpX X f o') : OpX X f (fun x y s Q => o x y s Q ∨ o' x y s Q) := by
  obtain ⟨r, h1, h2⟩ := h
  obtain ⟨r', h1', h2'⟩ := h'
  exact ⟨_, h1.or h1', fun x y s v w H A B Q R dv dw q => q.elim (fun q => .inl (h2 x y s v w H A B Q R dv dw q)) fun q => .inr (h2' x y s v w H A B Q R dv dw q)⟩
theorem OpX.imp {X : Cx} {f : Value → Value → Sem Value} {o o' : O2} (h : OpX X f o) (i : ∀ x y s Q, o' x y s Q → o x y s Q) : OpX X f o' := by
  obtain ⟨r, h1, h2⟩ := h
  exact ⟨r, h1, fun x y s v w H A B Q R dv dw q => h2 x y s v w H A B Q R dv dw (i _ _ _ _ q)⟩
/-- an operation that is a function -/
def oF (f : Sto → D → D → Option D) : O2 := fun x y s Q => ∃ z, f s x y = some z ∧ Q z s
theorem mono_oF {f : Sto → D → D → Option D} : MonoO (oF f) := fun _ _ _ _ _ g ⟨z, e, q⟩ => ⟨z, e, g _ _ q⟩
def dBin (o : O2) (ta tb : ED) : ED := fun env s Q => ta env s fun x s1 => tb env s1 fun y s2 => o x y s2 Q
theorem mono_bin {o : O2} {ta tb : ED} (mo : MonoO o) (ma : Mono ta) (mb : Mono tb) : Mono (dBin o ta tb) := fun env s P P' f h => ma _ _ _ _ (fun x s1 h1 => mb _ _ _ _ (fun y s2 h2 => mo _ _ _ _ _ f h2) h1) h
variable {a b c : Expr} {ta tb tc : ED} {pos : Pos}
theorem bin_rd {X : DX} {o : O2} {r : R2} (ma : Mono ta) (mb : Mono tb) (mo : MonoO o) (l : ∀ (x y : D) (s : Sto) (v w : V) (H : Hp) (A B : List Addr) (Q : VK), RepS X.K B H A s → Dat X.K (Fz B H A s) A x v → Dat X.K (Fz B H A s) A y w → o x y s (PostE X.K B H A s Q) → r v w H Q)
    (σ : L2.St) (H : Hp) (Q : VK) (h : rdE X.kk (dBin o ta tb) σ H Q) : tOp r (rdE X.kk ta) (rdE X.kk tb) σ H Q := by
  obtain ⟨env, s, A, B, w, h⟩ := h
  refine rdE_go ma w h fun x s1 v H1 A1 h1 w1 e1 dv => ?_
  refine rdE_go mb w1 h1 fun y s2 u H2 A2 h2 w2 e2 du => ?_
  exact l x y s2 v u H2 A2 B Q w2.rs (dv.ext e2) du (mo _ _ _ _ _ (fun d s' p => PostE.from (e1.trans e2) p) h2)
theorem pd_bin {X : DX} {op : Operator} {o : O2} (ho : OpX X (binaryOp op) o) (mo : MonoO o) (ha : PD X a ta) (hb : PD X b tb) : PD X (.BinOp a op b pos) (dBin o ta tb) := by
  obtain ⟨r, h1, h2⟩ := ho
  exact ⟨pe_imp (pe_op h1 ha.pe hb.pe) (bin_rd ha.mono hb.mono mo h2), mono_bin mo ha.mono hb.mono⟩
theorem pd_cmp {X : DX} {op : CmpOp} {o : O2} (ho : OpX X (compareOp op) o) (mo : MonoO o) (ha : PD X a ta) (hb : PD X b tb) (hm : behindInMarks op b = false) : PD X (.Compare a [op] [b] pos) (dBin o ta tb) := by
  obtain ⟨r, h1, h2⟩ := ho
  exact ⟨pe_imp (pe_cmpR h1 ha.pe hb.pe hm) (bin_rd ha.mono hb.mono mo h2), mono_bin mo ha.mono hb.mono⟩
/-- a value as a test -/
def dTest (t : ED) : TD := fun env s Q => t env s fun x s1 => ∃ k, x = .bl k ∧ Q k s1
theorem mono_test {t : ED} (m : Mono t) : Mono (dTest t) := fun _ _ _ _ f h => m _ _ _ _ (fun _ _ ⟨k, e, q⟩ => ⟨k, e, f _ _ q⟩) h
theorem test_rd {X : DX} {t : ED} (m : Mono t) (σ : L2.St) (H : Hp) (Q : Bool → Hp → Prop) (h : rdT X.kk (dTest t) σ H Q) : rdE X.kk t σ H fun x H' => ∃ k, x = .bl k ∧ Q k H' := by
  obtain ⟨env, s, A, B, w, h⟩ := h
  refine rdE_go m w h fun x s1 v H1 A1 ⟨k, e, q⟩ w1 e1 dv => ?_
  subst e
  cases dv
  exact ⟨k, rfl, q H1 A1 w1.rs e1⟩
theorem ptd_cmp {X : DX} {op : CmpOp} {o : O2} (ho : OpX X (compareOp op) o) (mo : MonoO o) (ha : PD X a ta) (hb : PD X b tb) (hm : behindInMarks op b = false) : PTD X (.Compare a [op] [b] pos) (dTest (dBin o ta tb)) := by
  obtain ⟨r, h1, h2⟩ := ho
  have mb := mono_bin mo ha.mono hb.mono
  refine ⟨pt_imp (pt_cmpR h1 ha.pe hb.pe hm) fun σ H Q h => ?_, mono_test mb⟩
  show tOp r (rdE X.kk ta) (rdE X.kk tb) σ H (fun x H' => ∃ k, x = .bl k ∧ Q k H')
  exact bin_rd ha.mono hb.mono mo h2 σ H _ (test_rd mb σ H Q h)
theorem ptd_val {X : DX} {e : Expr} {t : ED} (h : PD X e t) (he : ∀ whole, isTrue e X.env whole = (do let v ← whole; standAt e.pos; holding [v] (truthy v)) := by intro _; rfl) : PTD X e (dTest t) :=
  ⟨pt_imp (pt_val h.pe he) fun σ H Q q => test_rd h.mono σ H Q q, mono_test h.mono⟩
/-- a op b op' c -/
def dChain (o o' : O2) (ta tb tc : ED) : ED := fun env s Q => ta env s fun x s1 => tb env s1 fun y s2 => o x y s2 fun z s3 => ∃ k, z = .bl k ∧ if k = true then tc env s3 fun u s4 => o' y u s4 Q else Q (.bl false) s3
theorem mono_chain {o o' : O2} (mo : MonoO o) (mo' : MonoO o') (ma : Mono ta) (mb : Mono tb) (mc : Mono tc) : Mono (dChain o o' ta tb tc) := fun env s P P' f h => ma _ _ _ _ (fun x s1 h1 => mb _ _ _ _ (fun y s2 h2 => mo _ _ _ _ _ (fun z s3 ⟨k, e, q⟩ => ⟨k, e, by
  cases k with
  | true => rw [if_pos rfl] at q ⊢; exact mc _ _ _ _ (fun u s4 h4 => mo' _ _ _ _ _ f h4) q
  | false => rw [if_neg Bool.false_ne_true] at q ⊢; exact f _ _ q⟩) h2) h1) h
theorem chain_rd {X : DX} {o o' : O2} {r r' : R2} (ma : Mono ta) (mb : Mono tb) (mc : Mono tc) (mo : MonoO o) (mo' : MonoO o') (l : ∀ (x y : D) (s : Sto) (v w : V) (H : Hp) (A B : List Addr) (Q : VK), RepS X.K B H A s → Dat X.K (Fz B H A s) A x v → Dat X.K (Fz B H A s) A y w → o x y s (PostE X.K B H A s Q) → r v w H Q)
    (l' : ∀ (x y : D) (s : Sto) (v w : V) (H : Hp) (A B : List Addr) (Q : VK), RepS X.K B H A s → Dat X.K (Fz B H A s) A x v → Dat X.K (Fz B H A s) A y w → o' x y s (PostE X.K B H A s Q) → r' v w H Q)
    (σ : L2.St) (H : Hp) (Q : VK) (h : rdE X.kk (dChain o o' ta tb tc) σ H Q) : tChain r r' (rdE X.kk ta) (rdE X.kk tb) (rdE X.kk tc) σ H Q := by
  obtain ⟨env, s, A, B, w, h⟩ := h
  refine rdE_go ma w h fun x s1 v H1 A1 h1 w1 e1 dv => ?_
  refine rdE_go mb w1 h1 fun y s2 u H2 A2 h2 w2 e2 du => ?_
  refine l x y s2 v u H2 A2 B _ w2.rs (dv.ext e2) du (mo _ _ _ _ _ (fun d s3 p z H3 A3 r3 e3 dz => ?_) h2)
  obtain ⟨k, ek, q⟩ := p
  subst ek
  cases dz
  refine ⟨k, rfl, ?_⟩
  have w3 := w2.to r3 e3
  cases k with
  | true =>
    rw [if_pos rfl] at q ⊢
    refine rdE_go mc w3 q fun t s4 g H4 A4 h4 w4 e4 dt => ?_
    exact l' y t s4 u g H4 A4 B Q w4.rs ((du.ext e3).ext e4) dt (mo' _ _ _ _ _ (fun d s' p => PostE.from ((e1.trans e2).trans (e3.trans e4)) p) h4)
  | false =>
    rw [if_neg Bool.false_ne_true] at q ⊢
    exact q _ _ _ w3.rs ((e1.trans e2).trans e3) (.bl false)
theorem pd_chain {X : DX} {op op' : CmpOp} {o o' : O2} (ho : OpX X (compareOp op) o) (mo : MonoO o) (ho' : OpX X (compareOp op') o') (mo' : MonoO o') (ha : PD X a ta) (hb : PD X b tb) (hc : PD X c tc)
    (hm : lastMarks [op, op'] [b, c] = false := by with_unfolding_all rfl) : PD X (.Compare a [op, op'] [b, c] pos) (dChain o o' ta tb tc) := by
  obtain ⟨r, h1, h2⟩ := ho
  obtain ⟨r', h1', h2'⟩ := ho'
  exact ⟨pe_imp (pe_chain h1 h1' ha.pe hb.pe hc.pe hm) (chain_rd ha.mono hb.mono hc.mono mo mo' h2 h2'), mono_chain mo mo' ha.mono hb.mono hc.mono⟩
variable {rest : List Expr} {uA uB : TD}
def dAnd (t u : TD) : TD := fun env s Q => t env s fun k s1 => if k = true then u env s1 Q else Q false s1
def dOr (t u : TD) : TD := fun env s Q => t env s fun k s1 => if k = true then Q true s1 else u env s1 Q
def dNot (t : TD) : TD := fun env s Q => t env s fun k s1 => Q (!k) s1
theorem mono_and {t u : TD} (mt : Mono t) (mu : Mono u) : Mono (dAnd t u) := fun env s P P' f h => mt _ _ _ _ (fun k s1 q => by
  cases k with
  | true => rw [if_pos rfl] at q ⊢; exact mu _ _ _ _ f q
  | false => rw [if_neg Bool.false_ne_true] at q ⊢; exact f _ _ q) h
theorem mono_or {t u : TD} (mt : Mono t) (mu : Mono u) : Mono (dOr t u) := fun env s P P' f h => mt _ _ _ _ (fun k s1 q => by
  cases k with
  | false => rw [if_neg Bool.false_ne_true] at q ⊢; exact mu _ _ _ _ f q
  | true => rw [if_pos rfl] at q ⊢; exact f _ _ q) h
theorem mono_not {t : TD} (mt : Mono t) : Mono (dNot t) := fun env s P P' f h => mt _ _ _ _ (fun k s1 q => f _ _ q) h
theorem and_rd {X : DX} {t u : TD} (mt : Mono t) (mu : Mono u) (σ : L2.St) (H : Hp) (Q : Bool → Hp → Prop) (h : rdT X.kk (dAnd t u) σ H Q) : tAnd (rdT X.kk t) (rdT X.kk u) σ H Q := by
  obtain ⟨env, s, A, B, w, h⟩ := h
  refine rdT_go mt w h fun k s1 H1 A1 h1 w1 e1 => ?_
  cases k with
  | true =>
    rw [if_pos rfl] at h1 ⊢
    exact rdT_go mu w1 h1 fun k s2 H2 A2 h2 w2 e2 => h2 H2 A2 w2.rs (e1.trans e2)
  | false => rw [if_neg Bool.false_ne_true] at h1 ⊢; exact h1 H1 A1 w1.rs e1
theorem or_rd {X : DX} {t u : TD} (mt : Mono t) (mu : Mono u) (σ : L2.St) (H : Hp) (Q : Bool → Hp → Prop) (h : rdT X.kk (dOr t u) σ H Q) : tOr (rdT X.kk t) (rdT X.kk u) σ H Q := by
  obtain ⟨env, s, A, B, w, h⟩ := h
  refine rdT_go mt w h fun k s1 H1 A1 h1 w1 e1 => ?_
  cases k with
  | false =>
    rw [if_neg Bool.false_ne_true] at h1 ⊢
    exact rdT_go mu w1 h1 fun k s2 H2 A2 h2 w2 e2 => h2 H2 A2 w2.rs (e1.trans e2)
  | true => rw [if_pos rfl] at h1 ⊢; exact h1 H1 A1 w1.rs e1
theorem pwd_and1 {X : DX} (ha : PTD X a uA) : PWD X (.BoolOp .And [a] pos) uA := ⟨pw_and1 ha.pt, ha.mono⟩
theorem pwd_or1 {X : DX} (ha : PTD X a uA) : PWD X (.BoolOp .Or [a] pos) uA := ⟨pw_or1 ha.pt, ha.mono⟩
theorem pwd_and {X : DX} (ha : PTD X a uA) (hb : PWD X (.BoolOp .And (b :: rest) pos) uB) : PWD X (.BoolOp .And (a :: b :: rest) pos) (dAnd uA uB) :=
  ⟨pw_imp (pw_and ha.pt hb.pw) (and_rd ha.mono hb.mono), mono_and ha.mono hb.mono⟩
theorem pwd_or {X : DX} (ha : PTD X a uA) (hb : PWD X (.BoolOp .Or (b :: rest) pos) uB) : PWD X (.BoolOp .Or (a :: b :: rest) pos) (dOr uA uB) :=
  ⟨pw_imp (pw_or ha.pt hb.pw) (or_rd ha.mono hb.mono), mono_or ha.mono hb.mono⟩
theorem ptd_w {X : DX} {e : Expr} {t : TD} (h : PWD X e t) : PTD X e t := ⟨h.pw.pt, h.mono⟩
theorem ptd_not {X : DX} (ha : PTD X a uA) : PTD X (.UnaryOp .Not a pos) (dNot uA) :=
  ⟨pt_imp (pt_not ha.pt) fun σ H Q ⟨env, s, A, B, w, h⟩ => rdT_go ha.mono w h fun k s1 H1 A1 h1 w1 e1 => h1 H1 A1 w1.rs e1, mono_not ha.mono⟩
/-- as values -/
def dAndV (ta tb : ED) : ED := fun env s Q => ta env s fun x s1 => ∃ k, x = .bl k ∧ if k = true then tb env s1 Q else Q (.bl false) s1
def dNotV (ta : ED) : ED := fun env s Q => ta env s fun x s1 => ∃ k, x = .bl k ∧ Q (.bl (!k)) s1
theorem mono_andV (ma : Mono ta) (mb : Mono tb) : Mono (dAndV ta tb) := fun env s P P' f h => ma _ _ _ _ (fun k s1 ⟨j, e, q⟩ => ⟨j, e, by
  cases j with
  | true => rw [if_pos rfl] at q ⊢; exact mb _ _ _ _ f q
  | false => rw [if_neg Bool.false_ne_true] at q ⊢; exact f _ _ q⟩) h
theorem mono_notV (ma : Mono ta) : Mono (dNotV ta) := fun env s P P' f h => ma _ _ _ _ (fun k s1 ⟨j, e, q⟩ => ⟨j, e, f _ _ q⟩) h
theorem pd_and {X : DX} (ha : PD X a ta) (hb : PD X (.BoolOp .And (b :: rest) pos) tb) : PD X (.BoolOp .And (a :: b :: rest) pos) (dAndV ta tb) :=
  ⟨pe_imp (pe_and ha.pe hb.pe) fun σ H Q ⟨env, s, A, B, w, h⟩ => rdE_go ha.mono w h fun x s1 v H1 A1 ⟨k, ek, q⟩ w1 e1 dv => by
    subst ek
    cases dv
    refine ⟨k, rfl, ?_⟩
    cases k with
    | true => rw [if_pos rfl] at q ⊢; exact rdE_go hb.mono w1 q fun x s2 v H2 A2 h2 w2 e2 dv => h2 v H2 A2 w2.rs (e1.trans e2) dv
    | false => rw [if_neg Bool.false_ne_true] at q ⊢; exact q _ H1 A1 w1.rs e1 (.bl false), mono_andV ha.mono hb.mono⟩
theorem pd_one {X : DX} {op : PySem.BoolOp} (ha : PD X a ta) : PD X (.BoolOp op [a] pos) ta := ⟨pe_one ha.pe, ha.mono⟩
theorem pd_not {X : DX} (ha : PD X a ta) : PD X (.UnaryOp .Not a pos) (dNotV ta) :=
  ⟨pe_imp (pe_not ha.pe) fun σ H Q ⟨env, s, A, B, w, h⟩ => rdE_go ha.mono w h fun x s1 v H1 A1 ⟨k, ek, q⟩ w1 e1 dv => by
    subst ek
    cases dv
    exact ⟨k, rfl, q _ H1 A1 w1.rs e1 (.bl _)⟩, mono_notV ha.mono⟩
def dIf (t : TD) (ta tb : ED) : ED := fun env s Q => t env s fun k s1 => if k = true then ta env s1 Q else tb env s1 Q
theorem mono_if {t : TD} (mt : Mono t) (ma : Mono ta) (mb : Mono tb) : Mono (dIf t ta tb) := fun env s P P' f h => mt _ _ _ _ (fun k s1 q => by
  cases k with
  | true => rw [if_pos rfl] at q ⊢; exact ma _ _ _ _ f q
  | false => rw [if_neg Bool.false_ne_true] at q ⊢; exact mb _ _ _ _ f q) h
theorem pd_if {X : DX} {t : TD} (hc : PTD X c t) (ha : PD X a ta) (hb : PD X b tb) : PD X (.IfExp c a b pos) (dIf t ta tb) :=
  ⟨pe_imp (pe_ifExp hc.pt ha.pe hb.pe) fun σ H Q ⟨env, s, A, B, w, h⟩ => rdT_go hc.mono w h fun k s1 H1 A1 q w1 e1 => by
    cases k with
    | true => rw [if_pos rfl] at q ⊢; exact rdE_go ha.mono w1 q fun x s2 v H2 A2 h2 w2 e2 dv => h2 v H2 A2 w2.rs (e1.trans e2) dv
    | false => rw [if_neg Bool.false_ne_true] at q ⊢; exact rdE_go hb.mono w1 q fun x s2 v H2 A2 h2 w2 e2 dv => h2 v H2 A2 w2.rs (e1.trans e2) dv, mono_if hc.mono ha.mono hb.mono⟩
def dUn (f : Sto → D → Option D) (ta : ED) : ED := fun env s Q => ta env s fun x s1 => ∃ z, f s1 x = some z ∧ Q z s1
theorem mono_un {f : Sto → D → Option D} (ma : Mono ta) : Mono (dUn f ta) := fun _ _ _ _ g h => ma _ _ _ _ (fun _ _ ⟨z, e, q⟩ => ⟨z, e, g _ _ q⟩) h
def dNil : AD := fun _ s Q => Q [] s
def dCons (ta : ED) (tr : AD) : AD := fun env s Q => ta env s fun x s1 => tr env s1 fun xs s2 => Q (x :: xs) s2
theorem mono_nil : Mono dNil := fun _ _ _ _ f h => f _ _ h
theorem mono_cons {tr : AD} (ma : Mono ta) (mr : Mono tr) : Mono (dCons ta tr) := fun _ _ _ _ f h => ma _ _ _ _ (fun _ _ h1 => mr _ _ _ _ (fun _ _ h2 => f _ _ h2) h1) h
theorem pad_nil {X : DX} : PAD X [] dNil := ⟨pa_imp pa_nil fun σ H Q ⟨env, s, A, B, w, q⟩ => q _ _ _ w.rs .refl .nil, mono_nil⟩
theorem pad_cons {X : DX} {es : List Expr} {tr : AD} (ha : PD X a ta) (hr : PAD X es tr) (hs : starEach (a :: es) X.env = (false, eval a X.env) :: starEach es X.env := by rfl) : PAD X (a :: es) (dCons ta tr) :=
  ⟨pa_imp (pa_cons ha.pe hr.pa hs) fun σ H Q ⟨env, s, A, B, w, h⟩ => rdE_go ha.mono w h fun x s1 v H1 A1 h1 w1 e1 dv => rdA_go hr.mono w1 h1 fun xs s2 vs H2 A2 h2 w2 e2 dvs => h2 _ H2 A2 w2.rs (e1.trans e2) (.cons (dv.ext e2) dvs), mono_cons ha.mono hr.mono⟩
variable {es : List Expr} {t : AD}
def dTup (t : AD) : ED := fun env s Q => t env s fun xs s1 => xs.length ≤ sizeLine ∧ Q (.tup xs) s1
theorem mono_tup (m : Mono t) : Mono (dTup t) := fun _ _ _ _ f h => m _ _ _ _ (fun _ _ ⟨l, q⟩ => ⟨l, f _ _ q⟩) h
theorem pd_tup {X : DX} {x1} (h : PAD X es t) : PD X (.Tuple es x1 pos) (dTup t) :=
  ⟨pe_imp (pe_tup h.pa) fun σ H Q ⟨env, s, A, B, w, q⟩ => rdA_go h.mono w q fun xs s1 vs H1 A1 ⟨hl, q1⟩ w1 e1 dvs => ⟨by rw [dvs.length]; exact hl, fun p hp => by
    obtain ⟨r2, e2, f2⟩ := w1.rs.laid (o := .tup vs) hp
    exact q1 _ _ _ r2 (e1.trans e2) (.tup (.of f2) (dvs.ext e2))⟩, mono_tup h.mono⟩
/-- a list that is never changed -/
def dLst (t : AD) : ED := fun env s Q => t env s fun xs s1 => xs.length ≤ sizeLine ∧ Q (.lst xs) s1
theorem mono_lst (m : Mono t) : Mono (dLst t) := fun _ _ _ _ f h => m _ _ _ _ (fun _ _ ⟨l, q⟩ => ⟨l, f _ _ q⟩) h
theorem pd_lst {X : DX} (h : PAD X es t) : PD X (.List es pos) (dLst t) :=
  ⟨pe_imp (pe_lst h.pa) fun σ H Q ⟨env, s, A, B, w, q⟩ => rdA_go h.mono w q fun xs s1 vs H1 A1 ⟨hl, q1⟩ w1 e1 dvs => ⟨by rw [dvs.length]; exact hl, fun p hp => by
    obtain ⟨r2, e2, f2⟩ := w1.rs.laid (o := .lst vs) hp
    exact q1 _ _ _ r2 (e1.trans e2) (.lst f2 (dvs.ext e2))⟩, mono_lst h.mono⟩
/-- a list that may change -/
def dNew (t : AD) : ED := fun env s Q => t env s fun xs s1 => xs.length ≤ sizeLine ∧ Q (.ref s1.length) (s1 ++ [some (.lst xs)])
theorem mono_new (m : Mono t) : Mono (dNew t) := fun _ _ _ _ f h => m _ _ _ _ (fun _ _ ⟨l, q⟩ => ⟨l, f _ _ q⟩) h
theorem pd_new {X : DX} (h : PAD X es t) : PD X (.List es pos) (dNew t) :=
  ⟨pe_imp (pe_lst h.pa) fun σ H Q ⟨env, s, A, B, w, q⟩ => rdA_go h.mono w q fun xs s1 vs H1 A1 ⟨hl, q1⟩ w1 e1 dvs => ⟨by rw [dvs.length]; exact hl, fun p hp => by
    obtain ⟨r2, e2⟩ := w1.rs.born (o := .lst vs) (mo := .lst xs) hp ⟨vs, upd_same, dvs⟩
    exact q1 _ _ _ r2 (e1.trans e2) (.ref (by rw [← w1.rs.len]; simp))⟩, mono_new h.mono⟩
/-- what changed changes no more -/
def dFrz (ta : ED) : ED := fun env s Q => ta env s fun x s1 => ∃ l xs, x = .ref l ∧ s1[l]? = some (some (.lst xs)) ∧ Q (.lst xs) (s1.set l none)
theorem mono_frz (ma : Mono ta) : Mono (dFrz ta) := fun _ _ _ _ f h => ma _ _ _ _ (fun _ _ ⟨l, xs, e, g, q⟩ => ⟨l, xs, e, g, f _ _ q⟩) h
theorem pd_frz {X : DX} (ha : PD X a ta) : PD X a (dFrz ta) :=
  ⟨pe_imp ha.pe fun σ H Q ⟨env, s, A, B, w, h⟩ => rdE_go ha.mono w h fun x s1 v H1 A1 ⟨l, xs, ex, hl, q⟩ w1 e1 dv => by
    subst ex
    cases dv with
    | ref hA =>
      obtain ⟨a', ha', vs, hv, dvs⟩ := w1.rs.ob l _ hl
      rw [hA] at ha'; cases ha'
      obtain ⟨r2, e2, f2⟩ := w1.rs.freeze hl hA
      exact q _ _ _ r2 (e1.trans e2) (.lst (f2 _ hv) (dvs.ext e2)), mono_frz ha.mono⟩
end
end Dl
set_option Elab.async false
set_option linter.all false
set_option autoImplicit false
set_option maxRecDepth 100000
set_option maxHeartbeats 4000000
namespace Dl
open PySem PySem.Spec PyProof.Rows L2
abbrev GD := D → En → Sto → (En → Sto → Prop) → Prop
def rdG (K : KK) (t : GD) : TG := fun v σ H Q => ∃ (env : En) (s : Sto) (A B : List Addr) (d : D), Wo K B H A s env σ ∧ Dat K (Fz B H A s) A d v ∧ t d env s (PostN K B H A s Q)
def MonoG (t : GD) : Prop := ∀ d env s P P', (∀ e s', P e s' → P' e s') → t d env s P → t d env s P'
structure PGD (X : DX) (e : Expr) (t : GD) : Prop where
  pg : PG X e (rdG X.kk t)
  mono : MonoG t
theorem pg_imp {X : Cx} {e : Expr} {t t' : TG} (h : PG X e t) (f : ∀ v σ H Q, t' v σ H Q → t v σ H Q) : PG X e t' := ⟨fun pins s σ H v u Q I r q => h.run pins s σ H v u Q I r (f v σ H Q q)⟩
section
variable {pos : Pos}
def gN (i : Nat) : GD := fun d env s Q => Q (env.set i (some d)) s
theorem mono_gN {i : Nat} : MonoG (gN i) := fun _ _ _ _ _ f h => f _ _ h
theorem pgd_name {X : DX} {i : Nat} {e : Expr} (h : PG X e (gName i)) : PGD X e (gN i) := ⟨pg_imp h fun v σ H Q ⟨env, s, A, B, d, w, dv, q⟩ => q _ H A w.rs .refl (w.re.set i dv), mono_gN⟩
/-- several names -/
def setE (env : En) : List Nat → List D → En
  | i :: is, d :: ds => setE (env.set i (some d)) is ds
  | _, _ => env
def setS (σ : L2.St) : List Nat → List V → L2.St
  | i :: is, v :: vs => setS (σ.set i (some v)) is vs
  | _, _ => σ
theorem RepE.sets {K : PySem.W.Frag} {F : Hp} {A : List Addr} : ∀ {is : List Nat} {ds : List D} {vs : List V} {env : En} {σ : L2.St}, RepE K F A env σ → DatL K F A ds vs → RepE K F A (setE env is ds) (setS σ is vs)
  | [], _, _, _, _, h, _ => by unfold setE setS; exact h
  | _ :: _, [], _, _, _, h, d => by cases d; unfold setE setS; exact h
  | i :: is, e :: ds, _, _, _, h, d => by
    cases d with
    | cons d1 d2 =>
      unfold setE setS
      exact RepE.sets (h.set i d1) d2
def gNames (is : List Nat) : TGs := fun vs σ H Q => vs.length = is.length ∧ Q (setS σ is vs) H
theorem pgs_imp {X : Cx} {es : List Expr} {t t' : TGs} (h : PGs X es t) (f : ∀ v σ H Q, t' v σ H Q → t v σ H Q) : PGs X es t' := ⟨fun pins s σ H v u Q I r q => h.run pins s σ H v u Q I r (f v σ H Q q)⟩
theorem pgs_n0 {X : Cx} : PGs X [] (gNames []) := pgs_imp pgs_nil fun vs σ H Q ⟨hl, q⟩ => by
  have e : vs = [] := List.eq_nil_of_length_eq_zero hl
  subst e
  exact ⟨rfl, q⟩
theorem pgs_n1 {X : Cx} {i : Nat} {is : List Nat} {e : Expr} {es : List Expr} (h1 : PG X e (gName i)) (h2 : PGs X es (gNames is)) (hs : (assignEach (e :: es) X.env).map (·.2) = assign e X.env :: (assignEach es X.env).map (·.2) := by rfl) :
    PGs X (e :: es) (gNames (i :: is)) := pgs_imp (pgs_cons h1 h2 hs) fun vs σ H Q ⟨hl, q⟩ => by
  cases vs with
  | nil => simp at hl
  | cons v vs => exact ⟨v, vs, rfl, by simpa using hl, q⟩
def gTs (is : List Nat) : GD := fun d env s Q => ∃ ds, d = .tup ds ∧ ds.length = is.length ∧ Q (setE env is ds) s
theorem mono_gTs {is : List Nat} : MonoG (gTs is) := fun _ _ _ _ _ f ⟨ds, e, l, q⟩ => ⟨ds, e, l, f _ _ q⟩
theorem pgd_tup {X : DX} {es : List Expr} {k : Nat} {is : List Nat} (hc : X.calm = true) (h : PGs X es (gNames is)) (hn : (assignEach es X.env).length = is.length := by rfl) (hst : (assignEach es X.env).findIdx? (·.1) = none := by rfl) : PGD X (.Tuple es k pos) (gTs is) :=
  ⟨pg_imp (pg_tup hc h hn hst) fun v σ H Q ⟨env, s, A, B, d, w, dv, ds, ed, hl, q⟩ => by
    subst ed
    cases dv with
    | tup hs hd => exact ⟨_, _, rfl, sqT_fz hs, by rw [hd.length]; exact hl, by rw [hd.length]; exact hl, q _ H A w.rs .refl (w.re.sets hd)⟩, mono_gTs⟩
/-- l[i] = .. in a list of the store -/
def gIx (to ti : ED) : GD := fun d env s Q => to env s fun o s1 => ti env s1 fun i s2 => ∃ l xs k j, o = .ref l ∧ i = .int k ∧ s2[l]? = some (some (.lst xs)) ∧ ixN xs.length k = some j ∧ Q env (s2.set l (some (.lst (xs.set j d))))
theorem mono_gIx {to ti : ED} (mo : Mono to) (mi : Mono ti) : MonoG (gIx to ti) := fun _ _ _ _ _ f h => mo _ _ _ _ (fun _ _ h1 => mi _ _ _ _ (fun _ _ ⟨l, xs, k, j, e1, e2, e3, e4, q⟩ => ⟨l, xs, k, j, e1, e2, e3, e4, f _ _ q⟩) h1) h
theorem pgd_ix {X : DX} {o i : Expr} {to ti : ED} (ho : PD X o to) (hi : PD X i ti)
    (ha : ∀ v, assign (.Subscript o i pos) X.env v = (do
      let ov ← holding [v] (eval o X.env)
      let iv ← holding [v, ov] (eval i X.env)
      standAt pos
      holding [v, ov, iv] (setItem ov iv v)
      release [v, ov, iv] []) := by intro _; rfl) : PGD X (.Subscript o i pos) (gIx to ti) :=
  ⟨pg_imp (pg_sub ho.pe hi.pe set_list ha) fun v σ H Q ⟨env, s, A, B, d, w, dv, h⟩ => by
    refine rdE_go ho.mono w h fun x s1 vo H1 A1 h1 w1 e1 dvo => ?_
    refine rdE_go hi.mono w1 h1 fun y s2 vi H2 A2 ⟨l, xs, k, j, ex, ey, hl, hj, q⟩ w2 e2 dvi => ?_
    subst ex ey
    cases dvi
    cases dvo with
    | ref hA =>
      obtain ⟨a', ha', vs, hv, dvs⟩ := w2.rs.ob l _ hl
      rw [e2.pre _ _ hA] at ha'; cases ha'
      have dv2 := (dv.ext e1).ext e2
      obtain ⟨r3, e3⟩ := w2.rs.write (o := .lst (vs.set j v)) (mo' := .lst (xs.set j d)) hl (e2.pre _ _ hA) ⟨_, upd_same, dvs.set j dv2⟩
      exact ⟨_, vs, k, j, rfl, rfl, hv, by rw [dvs.length]; exact hj, q _ _ _ r3 ((e1.trans e2).trans e3) ((w2.to r3 e3).re)⟩, mono_gIx ho.mono hi.mono⟩
end
section
variable {st : Stmt} {rest : List Stmt} {t u : SD} {e : Expr} {te : ED} {pos : Pos}
def dNext : SD := fun E env s => E.nx env s
def dSeq (t u : SD) : SD := fun E env s => t { E with nx := u E } env s
theorem mono_next : MonoS dNext := fun _ _ _ _ l h => l.nx _ _ h
theorem mono_seq (mt : MonoS t) (mu : MonoS u) : MonoS (dSeq t u) := fun a b env s l h => mt { a with nx := u a } { b with nx := u b } env s ⟨fun e s h => mu _ _ _ _ l h, l.rt, l.bk, l.ct⟩ h
theorem pssd_nil {X : DX} : PSsD X [] dNext := ⟨pss_imp pss_nil fun D σ H ⟨env, s, A, B, w, h⟩ => h _ _ _ w.rs .refl w.re, mono_next⟩
theorem seq_le {K : KK} {B : List Addr} {H : Hp} {A : List Addr} {s : Sto} {D : Ends} {u : SD} (mu : MonoS u) (z : K.Z B H A s) : EndsD.Le { PostS K.K B H A s D with nx := u (PostS K.K B H A s D) } (PostS K.K B H A s { D with nx := rdS K u D }) :=
  ⟨fun e s' h σ H' A' r x re => ⟨e, s', A', B, ⟨r, re, K.zc z x⟩, mu _ _ _ _ (PostS.from x) h⟩, fun _ _ h => h, fun _ _ h => h, fun _ _ h => h⟩
theorem pssd_cons {X : DX} (h1 : PSD X st t) (h2 : PSsD X rest u) : PSsD X (st :: rest) (dSeq t u) :=
  ⟨pss_imp (pss_cons h1.ps h2.pss) fun D σ H ⟨env, s, A, B, w, h⟩ => ⟨env, s, A, B, w, h1.mono _ _ _ _ (seq_le (K := X.kk) h2.mono w.z) h⟩, mono_seq h1.mono h2.mono⟩
theorem pssd_one {X : DX} (h1 : PSD X st t) : PSsD X [st] t := ⟨pss_one h1.ps, h1.mono⟩
def dNever : SD := fun _ _ _ => False
theorem psd_never {X : DX} : PSD X st dNever := ⟨ps_imp ps_never fun D σ H ⟨_, _, _, _, _, h⟩ => h.elim, fun _ _ _ _ _ h => h.elim⟩
theorem pssd_never {X : DX} {sts : List Stmt} : PSsD X sts dNever := ⟨pss_imp pss_never fun D σ H ⟨_, _, _, _, _, h⟩ => h.elim, fun _ _ _ _ _ h => h.elim⟩
def dDrop (te : ED) : SD := fun E env s => te env s fun _ s1 => E.nx env s1
theorem psd_expr {X : DX} (he : PD X e te) (hs : swapsWith e none pos.line X.env = pure false := by rfl) : PSD X (.Expr e pos) (dDrop te) :=
  ⟨ps_imp (ps_expr he.pe hs) fun D σ H ⟨env, s, A, B, w, h⟩ => rdE_go he.mono w h fun d s1 v H1 A1 q w1 e1 dv => q σ H1 A1 w1.rs e1 w1.re, fun _ _ _ _ l h => he.mono _ _ _ _ (fun _ _ q => l.nx _ _ q) h⟩
def dRet (te : ED) : SD := fun E env s => te env s E.rt
theorem psd_ret {X : DX} (he : PD X e te) : PSD X (.Return (some e) pos) (dRet te) := ⟨ps_imp (ps_ret he.pe) fun D σ H ⟨env, s, A, B, w, h⟩ => ⟨env, s, A, B, w, h⟩, fun _ _ _ _ l h => he.mono _ _ _ _ (fun _ _ q => l.rt _ _ q) h⟩
def dIfS (c : TD) (t u : SD) : SD := fun E env s => c env s fun b s1 => if b = true then t E env s1 else u E env s1
theorem mono_ifS {c : TD} (mc : Mono c) (mt : MonoS t) (mu : MonoS u) : MonoS (dIfS c t u) := fun a b env s l h => mc _ _ _ _ (fun k s1 q => by
  cases k with
  | true => rw [if_pos rfl] at q ⊢; exact mt _ _ _ _ l q
  | false => rw [if_neg Bool.false_ne_true] at q ⊢; exact mu _ _ _ _ l q) h
theorem psd_if {X : DX} {c : Expr} {a b : List Stmt} {tc : TD} (hc : PTD X c tc) (ha : PSsD X a t) (hb : PSsD X b u) : PSD X (.If c a b pos) (dIfS tc t u) :=
  ⟨ps_imp (ps_if hc.pt ha.pss hb.pss) fun D σ H ⟨env, s, A, B, w, h⟩ => rdT_go hc.mono w h fun k s1 H1 A1 q w1 e1 => by
    cases k with
    | true => rw [if_pos rfl] at q ⊢; exact ⟨env, s1, A1, B, w1, ha.mono _ _ _ _ (PostS.from e1) q⟩
    | false => rw [if_neg Bool.false_ne_true] at q ⊢; exact ⟨env, s1, A1, B, w1, hb.mono _ _ _ _ (PostS.from e1) q⟩, mono_ifS hc.mono ha.mono hb.mono⟩
def dAsg (te : ED) (g : GD) : SD := fun E env s => te env s fun d s1 => g d env s1 E.nx
theorem mono_asg {g : GD} (me : Mono te) (mg : MonoG g) : MonoS (dAsg te g) := fun a b env s l h => me _ _ _ _ (fun d s1 q => mg _ _ _ _ _ l.nx q) h
theorem asg_rd {X : DX} {g : GD} {tg : Expr} (he : PD X e te) (hg : PGD X tg g) (D : Ends) (σ : L2.St) (H : Hp) (h : rdS X.kk (dAsg te g) D σ H) : tAsg (rdE X.kk te) (rdG X.kk g) D σ H := by
  obtain ⟨env, s, A, B, w, h⟩ := h
  exact rdE_go he.mono w h fun d s1 v H1 A1 q w1 e1 dv => ⟨env, s1, A1, B, d, w1, dv, hg.mono _ _ _ _ _ (fun en s' p => PostN.from e1 p) q⟩
theorem psd_asg {X : DX} {g : GD} {tg : Expr} (he : PD X e te) (hg : PGD X tg g) (hs : swapsWithSole [tg] e pos.line X.env = pure false := by rfl) (hw : swappedStores [tg] e X.env = pure none := by rfl) (h1 : (assignEach [tg] X.env).map (·.2) = [assign tg X.env] := by rfl) :
    PSD X (.Assign [tg] e pos) (dAsg te g) := ⟨ps_imp (ps_asg he.pe hg.pg hs hw h1) (asg_rd he hg), mono_asg he.mono hg.mono⟩
theorem set_rd {X : DX} {i : Nat} (he : PD X e te) (D : Ends) (σ : L2.St) (H : Hp) (h : rdS X.kk (dAsg te (gN i)) D σ H) : tAsg (rdE X.kk te) (gName i) D σ H := by
  obtain ⟨env, s, A, B, w, h⟩ := h
  exact rdE_go he.mono w h fun d s1 v H1 A1 q w1 e1 dv => q _ _ _ w1.rs e1 (w1.re.set i dv)
theorem psd_set {X : DX} {i : Nat} {x : Str} {pos' : Pos} (hN : X.N.Nodup) (hi : X.N[i]? = some x) (hx : Loc X.env.scope x) (he : PD X e te) (hs : swapsWith e (some (.Name x pos')) pos.line X.env = pure false := by rfl) (hf : X.fn x = true ∨ X.env.scope.names.lookup x = some .local := by first | exact .inl rfl | exact .inr rfl | assumption) :
    PSD X (.Assign [.Name x pos'] e pos) (dAsg te (gN i)) := ⟨ps_imp (ps_set hN hi hx he.pe hs hf) (set_rd he), mono_asg he.mono mono_gN⟩
/-- name op= e -/
def dAug (i : Nat) (o : O2) (te : ED) : SD := fun E env s => ∃ x, env[i]? = some (some x) ∧ te env s fun y s1 => o x y s1 fun z s2 => E.nx (env.set i (some z)) s2
theorem mono_aug {i : Nat} {o : O2} (mo : MonoO o) (me : Mono te) : MonoS (dAug i o te) := fun a b env s l ⟨x, ex, h⟩ => ⟨x, ex, me _ _ _ _ (fun _ _ q => mo _ _ _ _ _ (fun _ _ q => l.nx _ _ q) q) h⟩
theorem psd_aug {X : DX} {i : Nat} {x : Str} {op : Operator} {o : O2} {pos' : Pos} (hN : X.N.Nodup) (hi : X.N[i]? = some x) (hx : Loc X.env.scope x) (he : PD X e te) (ho : OpX X (inplaceOp op) o) (mo : MonoO o) (hf : X.fn x = true ∨ X.env.scope.names.lookup x = some .local := by first | exact .inl rfl | exact .inr rfl | assumption) :
    PSD X (.AugAssign (.Name x pos') op e pos) (dAug i o te) := by
  obtain ⟨r, h1, h2⟩ := ho
  have hp : PIp X op r := fun pins s σ H x y v u Q I rx ry q => h1 pins s σ H x y v u Q I rx ry q
  refine ⟨ps_imp (ps_aug hN hi hx he.pe hp hf) fun D σ H ⟨env, s, A, B, w, x, ex, h⟩ => ?_, mono_aug mo he.mono⟩
  obtain ⟨v, hv, dv⟩ := w.re.get i x ex
  refine ⟨v, hv, rdE_go he.mono w h fun y s1 u H1 A1 q w1 e1 du => ?_⟩
  exact h2 x y s1 v u H1 A1 B _ w1.rs (dv.ext e1) du (mo _ _ _ _ _ (fun z s2 p vz H2 A2 r2 e2 dz => p _ _ _ r2 (e1.trans e2) ((w1.re.ext e2).set i dz)) q)
def dWhile (c : TD) (t : SD) : SD := fun E env s => ∃ W : Nat → En → Sto → Prop, (∃ m, W m env s) ∧ ∀ m env s, W m env s →
  c env s fun b s1 => if b = true then ∃ N : En → Sto → Prop, (∀ e' s', N e' s' → ∃ m', m' < m ∧ W m' e' s') ∧ t ⟨N, E.rt, E.nx, N⟩ env s1 else E.nx env s1
theorem mono_while {c : TD} (mc : Mono c) (mt : MonoS t) : MonoS (dWhile c t) := fun a b env s l ⟨W, w0, h⟩ => ⟨W, w0, fun m env s w => mc _ _ _ _ (fun k s1 q => by
  cases k with
  | true =>
    rw [if_pos rfl] at q ⊢
    obtain ⟨N, hN, q⟩ := q
    exact ⟨N, hN, mt ⟨N, a.rt, a.nx, N⟩ _ _ _ ⟨fun _ _ h => h, l.rt, l.nx, fun _ _ h => h⟩ q⟩
  | false => rw [if_neg Bool.false_ne_true] at q ⊢; exact l.nx _ _ q) (h m env s w)⟩
theorem psd_while {X : DX} {c : Expr} {body : List Stmt} {tc : TD} (hp : PassesOwn (model X.prog X.w) X.A X.env X.xe) (hc : PTD X c tc) (hb : PSsD X body t) : PSD X (.While c body [] pos) (dWhile tc t) := by
  refine ⟨ps_imp (ps_while hp hc.pt hb.pss) fun D σ H ⟨env, s, A, B, w, W, ⟨m, w0⟩, h⟩ => ?_, mono_while hc.mono hb.mono⟩
  refine ⟨fun m σ1 H1 => ∃ env1 s1 A1, Wo X.kk B H1 A1 s1 env1 σ1 ∧ Ext B H A s H1 A1 s1 ∧ W m env1 s1, ⟨m, env, s, A, w, .refl, w0⟩, ?_⟩
  rintro m σ1 H1 ⟨env1, s1, A1, w1, e1, wm⟩
  refine rdT_go hc.mono w1 (h m env1 s1 wm) fun k s2 H2 A2 q w2 e2 => ?_
  cases k with
  | true =>
    rw [if_pos rfl] at q ⊢
    obtain ⟨N, hN, q⟩ := q
    refine ⟨fun σ3 H3 => ∃ env3 s3 A3, Wo X.kk B H3 A3 s3 env3 σ3 ∧ Ext B H A s H3 A3 s3 ∧ N env3 s3, ?_, ?_⟩
    · rintro σ3 H3 ⟨env3, s3, A3, w3, e3, n3⟩
      obtain ⟨m', hm, wm'⟩ := hN _ _ n3
      exact ⟨m', hm, env3, s3, A3, w3, e3, wm'⟩
    · refine ⟨env1, s2, A2, B, w2, hb.mono _ _ _ _ ⟨fun e' s' n σ' H' A' r x re => ?_, fun d s' h => PostE.from (e1.trans e2) h, fun d s' h => PostN.from (e1.trans e2) h, fun e' s' n σ' H' A' r x re => ?_⟩ q⟩
      · exact ⟨e', s', A', ⟨r, re, X.zc w2.z x⟩, (e1.trans e2).trans x, n⟩
      · exact ⟨e', s', A', ⟨r, re, X.zc w2.z x⟩, (e1.trans e2).trans x, n⟩
  | false =>
    rw [if_neg Bool.false_ne_true] at q ⊢
    exact q _ _ _ w2.rs (e1.trans e2) w2.re
end
abbrev ID := En → Sto → (List D → (Sto → Prop) → Sto → Prop) → Prop
/-- the iterator J gives ds, in worlds behind this one in which g holds -/
def ItOk (K : PySem.W.Frag) (B : List Addr) (J : It) (ds : List D) (g : Sto → Prop) (H : Hp) (A : List Addr) (s : Sto) : Prop :=
  ∀ (B' : List Addr) (H' : Hp) (A' : List Addr) (s' : Sto), RepS K B' H' A' s' → Same (Fz B H A s) (Fz B' H' A' s') → (∀ (l : Nat) (a : Addr), A[l]? = some a → A'[l]? = some a) → g s' → ∀ i,
    (∀ d, ds[i]? = some d → J.go i H' ∧ ∀ x H2, J.yld i H' x H2 → RepS K B' H2 A' s' ∧ Ext B' H' A' s' H2 A' s' ∧ Dat K (Fz B' H2 A' s') A' d x) ∧ (ds.length ≤ i → J.stop i H')
def PostI (K : PySem.W.Frag) (B : List Addr) (H : Hp) (A : List Addr) (s : Sto) (R : It → Hp → Prop) : List D → (Sto → Prop) → Sto → Prop := fun ds g s' => ∀ (J : It) (H' : Hp) (A' : List Addr), RepS K B H' A' s' → Ext B H A s H' A' s' → ItOk K B J ds g H' A' s' → R J H'
def rdI (K : KK) (t : ID) : TI := fun σ H R => ∃ (env : En) (s : Sto) (A B : List Addr), Wo K B H A s env σ ∧ t env s (PostI K.K B H A s R)
def MonoI (t : ID) : Prop := ∀ env s P P', (∀ ds g s', P ds g s' → P' ds g s') → t env s P → t env s P'
structure PID (X : DX) (tg e : Expr) (t : ID) : Prop where
  pi : PI X tg e (rdI X.kk t)
  mono : MonoI t
theorem pi_imp {X : Cx} {tg e : Expr} {t t' : TI} (h : PI X tg e t) (f : ∀ σ H R, t' σ H R → t σ H R) : PI X tg e t' := ⟨fun pins s σ H R I q => h.run pins s σ H R I (f σ H R q)⟩
section
variable {pos : Pos} {tg e : Expr} {te : ED}
def noG : Sto → Prop := fun _ => True
theorem itok_list {K : PySem.W.Frag} {B : List Addr} {H : Hp} {A : List Addr} {s : Sto} {a : Addr} {vs : List V} {ds : List D} {g : Sto → Prop} (hs : ∀ B' H' A' s', RepS K B' H' A' s' → Same (Fz B H A s) (Fz B' H' A' s') → (∀ (l : Nat) (a : Addr), A[l]? = some a → A'[l]? = some a) → g s' → SqL K H' a vs)
    (hd : DatL K (Fz B H A s) A ds vs) : ItOk K B (Itl K a) ds g H A s := by
  intro B' H' A' s' R e p hg i
  have hs' := hs B' H' A' s' R e p hg
  refine ⟨fun d hi => ?_, fun hi => ⟨vs, hs', by rw [hd.length]; exact hi⟩⟩
  obtain ⟨v, hv, dv⟩ := hd.get hi
  refine ⟨⟨vs, v, hs', hv⟩, fun x H2 ⟨eH, hx⟩ => ?_⟩
  subst eH
  have := hx vs hs'
  rw [hv] at this; cases this
  exact ⟨R, .refl, dv.mono e p⟩
theorem itok_tup {K : PySem.W.Frag} {B : List Addr} {H : Hp} {A : List Addr} {s : Sto} {a : Addr} {vs : List V} {ds : List D} {g : Sto → Prop} (hs : ∀ B' H' A' s', RepS K B' H' A' s' → Same (Fz B H A s) (Fz B' H' A' s') → (∀ (l : Nat) (a : Addr), A[l]? = some a → A'[l]? = some a) → g s' → SqT K H' a vs)
    (hd : DatL K (Fz B H A s) A ds vs) : ItOk K B (Itt K a) ds g H A s := by
  intro B' H' A' s' R e p hg i
  have hs' := hs B' H' A' s' R e p hg
  refine ⟨fun d hi => ?_, fun hi => ⟨vs, hs', by rw [hd.length]; exact hi⟩⟩
  obtain ⟨v, hv, dv⟩ := hd.get hi
  refine ⟨⟨vs, v, hs', hv⟩, fun x H2 ⟨eH, hx⟩ => ?_⟩
  subst eH
  have := hx vs hs'
  rw [hv] at this; cases this
  exact ⟨R, .refl, dv.mono e p⟩
/-- a list: a datum, or one of the store that stays -/
def isL (s : Sto) (x : D) (ds : List D) (g : Sto → Prop) : Prop := (x = .lst ds ∧ g = noG) ∨ (x = .frl ds ∧ g = noG) ∨ ∃ l, x = .ref l ∧ s[l]? = some (some (.lst ds)) ∧ g = fun s' => s'[l]? = some (some (.lst ds))
theorem isL_rd {K : PySem.W.Frag} {B : List Addr} {H : Hp} {A : List Addr} {s : Sto} {x : D} {v : V} {ds : List D} {g : Sto → Prop} (R : RepS K B H A s) (dv : Dat K (Fz B H A s) A x v) (h : isL s x ds g) :
    ∃ a vs, v = .ref a ∧ SqL K H a vs ∧ DatL K (Fz B H A s) A ds vs ∧ ItOk K B (Itl K a) ds g H A s := by
  rcases h with ⟨rfl, rfl⟩ | ⟨rfl, rfl⟩ | ⟨l, rfl, hl, rfl⟩
  · cases dv with
    | lst hs hd => exact ⟨_, _, rfl, sqL_fz (.of hs), hd, itok_list (fun B' H' A' s' R' e p _ => sqL_fz (e.seq (.of hs))) hd⟩
  · cases dv with
    | frl hs hd => exact ⟨_, _, rfl, sqL_fz hs.seq, hd, itok_list (fun B' H' A' s' R' e p _ => sqL_fz (e.seq hs.seq)) hd⟩
  · cases dv with
    | ref hA =>
      obtain ⟨a', ha', vs, hv, hd⟩ := R.ob l _ hl
      rw [hA] at ha'; cases ha'
      refine ⟨_, vs, rfl, .of hv, hd, ?_⟩
      intro B' H' A' s' R' e p hg i
      obtain ⟨a2, ha2, vs', hv', hd'⟩ := R'.ob l _ hg
      rw [p _ _ hA] at ha2; cases ha2
      refine ⟨fun d hi => ?_, fun hi => ⟨vs', .of hv', by rw [hd'.length]; exact hi⟩⟩
      obtain ⟨v, hw, dw⟩ := hd'.get hi
      refine ⟨⟨vs', v, .of hv', hw⟩, fun x H2 ⟨eH, hx⟩ => ?_⟩
      subst eH
      have := hx vs' (.of hv')
      rw [hw] at this; cases this
      exact ⟨R', .refl, dw⟩
/-- range(n) -/
def rangeD (lo : Int) (n : Nat) : List D := (List.range n).map fun i => .int (lo + (i : Nat))
theorem itok_range {K : PySem.W.Frag} {B : List Addr} {H : Hp} {A : List Addr} {s : Sto} {lo : Int} {n : Nat} : ItOk K B (Itr lo n) (rangeD lo n) noG H A s := by
  intro B' H' A' s' R e p hg i
  refine ⟨fun d hi => ?_, fun hi => show n ≤ i by simpa [rangeD] using hi⟩
  have hn : i < n := by
    have := (List.getElem?_eq_some_iff.mp hi).1
    simpa [rangeD] using this
  have hd : d = .int (lo + (i : Nat)) := by
    simp [rangeD, hn] at hi
    exact hi.symm
  refine ⟨hn, fun x H2 ⟨eH, hx⟩ => ?_⟩
  subst eH hx hd
  exact ⟨R, .refl, .int _⟩
def iR1 (t : AD) : ID := fun env s R => t env s fun xs s1 => ∃ j : Int, xs = [.int j] ∧ -(2 ^ 62) ≤ j ∧ j < 2 ^ 62 ∧ R (rangeD 0 j.toNat) noG s1
theorem mono_iR1 {t : AD} (m : Mono t) : MonoI (iR1 t) := fun _ _ _ _ f h => m _ _ _ _ (fun _ _ ⟨j, e, a, b, q⟩ => ⟨j, e, a, b, f _ _ _ q⟩) h
theorem pid_range1 {X : DX} {a : Expr} {t : AD} {p : Pos} (hg : Gl X "range") (hm : X.mg "range" = none) (ha : PAD X [a] t) (hs : starEach [a] X.env = [(false, eval a X.env)] := by rfl) : PID X tg (.Call (.Name "range" p) [a] [] pos) (iR1 t) :=
  ⟨pi_imp (pi_range1 hg hm ha.pa hs) fun σ H R ⟨env, s, A, B, w, h⟩ => rdA_go ha.mono w h fun xs s1 vs H1 A1 ⟨j, ex, h1, h2, q⟩ w1 e1 dv => by
    subst ex
    cases dv with
    | cons d1 d2 =>
      cases d1
      cases d2
      exact ⟨j, rfl, h1, h2, q _ _ _ w1.rs e1 itok_range⟩, mono_iR1 ha.mono⟩
/-- a text's signs -/
def signsD (x : Str) : List D := x.cps.toList.map fun c => .str ⟨#[c]⟩
end
def forD (g : Sto → Prop) (tg : GD) (tb : SD) (E : EndsD) : List D → En → Sto → Prop
  | [], env, s => g s ∧ E.nx env s
  | d :: ds, env, s => g s ∧ tg d env s fun env1 s1 => tb ⟨forD g tg tb E ds, E.rt, E.nx, forD g tg tb E ds⟩ env1 s1
theorem mono_forD {g : Sto → Prop} {tg : GD} {tb : SD} (mg : MonoG tg) (mb : MonoS tb) {a b : EndsD} (l : a.Le b) : ∀ (ds : List D) (env : En) (s : Sto), forD g tg tb a ds env s → forD g tg tb b ds env s
  | [], _, _, ⟨h1, h2⟩ => ⟨h1, l.nx _ _ h2⟩
  | d :: ds, _, _, ⟨h1, h2⟩ => ⟨h1, mg _ _ _ _ _ (fun _ _ q => mb ⟨forD g tg tb a ds, a.rt, a.nx, forD g tg tb a ds⟩ _ _ _ ⟨mono_forD mg mb l ds, l.rt, l.nx, mono_forD mg mb l ds⟩ q) h2⟩
def dFor (it : ID) (tg : GD) (tb : SD) : SD := fun E env s => it env s fun ds g s1 => forD g tg tb E ds env s1
section
variable {pos : Pos}
theorem mono_for {it : ID} {tg : GD} {tb : SD} (mi : MonoI it) (mg : MonoG tg) (mb : MonoS tb) : MonoS (dFor it tg tb) := fun a b env s l h => mi _ _ _ _ (fun ds g s1 q => mono_forD mg mb l ds _ _ q) h
theorem drop_cons {α : Type} {l : List α} {i : Nat} {d : α} (h : l[i]? = some d) : l.drop i = d :: l.drop (i + 1) := by
  obtain ⟨h1, h2⟩ := List.getElem?_eq_some_iff.mp h
  rw [List.drop_eq_getElem_cons h1, h2]
theorem psd_for {X : DX} {tg iter : Expr} {body : List Stmt} {it : ID} {g : GD} {tb : SD} (hp : PassesOwn (model X.prog X.w) X.A X.env X.xe) (hc : X.calm = true) (hi : PID X tg iter it) (hg : PGD X tg g) (hb : PSsD X body tb)
    (hs : ∀ x, foldedSetIterable iter X.env x = pure x := by intro _; rfl) : PSD X (.For tg iter body [] pos) (dFor it g tb) := by
  refine ⟨ps_imp (ps_for hp hc hi.pi hg.pg hb.pss hs) fun D σ H ⟨env, s, A, B, w, h⟩ => ?_, mono_for hi.mono hg.mono hb.mono⟩
  refine ⟨env, s, A, B, w, hi.mono _ _ _ _ (fun ds gd s1 q J H1 A1 r1 e1 ok => ?_) h⟩
  have w1 := w.to r1 e1
  refine ⟨fun i m σ' H' => m = ds.length - i ∧ i ≤ ds.length ∧ ∃ env' s' A', Wo X.kk B H' A' s' env' σ' ∧ Ext B H1 A1 s1 H' A' s' ∧ forD gd g tb (PostS X.K B H A s D) (ds.drop i) env' s', ⟨ds.length, by simp, Nat.zero_le _, env, s1, A1, w1, .refl, by simpa using q⟩, ?_⟩
  rintro i m σ2 H2 ⟨rfl, hi', env2, s2, A2, w2, e2, q2⟩
  have okw := ok B H2 A2 s2 w2.rs e2.same e2.pre
  by_cases hlt : i < ds.length
  · have hd : ds[i]? = some ds[i] := List.getElem?_eq_getElem hlt
    rw [drop_cons hd] at q2
    obtain ⟨hgd, q3⟩ := q2
    obtain ⟨go, yl⟩ := (okw hgd i).1 _ hd
    refine .inr ⟨go, fun σ' H' => ∃ env' s' A', Wo X.kk B H' A' s' env' σ' ∧ Ext B H1 A1 s1 H' A' s' ∧ forD gd g tb (PostS X.K B H A s D) (ds.drop (i + 1)) env' s', fun σ' H' n => ⟨ds.length - (i + 1), by omega, rfl, hlt, n⟩, fun x H3 y => ?_⟩
    obtain ⟨r3, e3, d3⟩ := yl x H3 y
    refine ⟨env2, s2, A2, B, ds[i], w2.to r3 e3, d3, hg.mono _ _ _ _ _ (fun env4 s4 q4 σ4 H4 A4 r4 e4 re4 => ?_) q3⟩
    have x4 := (e2.trans e3).trans e4
    have w4 : Wo X.kk B H4 A4 s4 env4 σ4 := ⟨r4, re4, X.zc w2.z (e3.trans e4)⟩
    refine ⟨env4, s4, A4, B, w4, hb.mono _ _ _ _ ⟨fun e' s' n σ' H' A' r x re => ?_, fun d s' h => PostE.from (e1.trans x4) h, fun d s' h => PostN.from (e1.trans x4) h, fun e' s' n σ' H' A' r x re => ?_⟩ q4⟩
    · exact ⟨e', s', A', ⟨r, re, X.zc w4.z x⟩, x4.trans x, n⟩
    · exact ⟨e', s', A', ⟨r, re, X.zc w4.z x⟩, x4.trans x, n⟩
  · have : i = ds.length := by omega
    subst this
    rw [List.drop_length] at q2
    obtain ⟨hgd, q3⟩ := q2
    exact .inl ⟨(okw hgd _).2 (Nat.le_refl _), q3 _ _ _ w2.rs (e1.trans e2) w2.re⟩
end
end Dl
set_option Elab.async false
set_option linter.all false
set_option autoImplicit false
set_option maxRecDepth 100000
set_option maxHeartbeats 4000000
namespace Dl
open PySem PySem.Spec PyProof.Rows L2
/-- a clause's tests -/
structure PTsD (X : DX) (ifs : List Expr) (t : TD) : Prop where
  pts : PTs X ifs (rdT X.kk t)
  mono : Mono t
def dYes : TD := fun _ s Q => Q true s
theorem mono_yes : Mono dYes := fun _ _ _ _ f h => f _ _ h
theorem pts_imp {X : Cx} {ifs : List Expr} {t t' : TT} (h : PTs X ifs t) (f : ∀ σ H Q, t' σ H Q → t σ H Q) : PTs X ifs t' := ⟨fun pins s σ H Q I q => h.run pins s σ H Q I (f σ H Q q)⟩
theorem ptsd_nil {X : DX} : PTsD X [] dYes := ⟨pts_imp pts_nil fun σ H Q ⟨env, s, A, B, w, h⟩ => h H A w.rs .refl, mono_yes⟩
theorem ptsd_one {X : DX} {c : Expr} {t : TD} (h : PTD X c t) : PTsD X [c] t := ⟨pts_one h.pt, h.mono⟩
theorem wipe_set_comm {σ : L2.St} {i : Nat} {o : Option V} : ∀ {vs : List Nat}, i ∉ vs → L2.wipe (σ.set i o) vs = (L2.wipe σ vs).set i o
  | [], _ => rfl
  | v :: vs, h => by
    unfold L2.wipe
    rw [wipe_set_comm (fun z => h (List.mem_cons_of_mem _ z)), List.set_comm _ _ (fun e => h (by rw [e]; exact List.mem_cons_self))]
theorem wipe_set_in {σ : L2.St} {i : Nat} {o : Option V} : ∀ {vs : List Nat}, i ∈ vs → L2.wipe (σ.set i o) vs = L2.wipe σ vs
  | [], h => by cases h
  | v :: vs, h => by
    unfold L2.wipe
    by_cases hv : i ∈ vs
    · rw [wipe_set_in hv]
    · have e : i = v := by
        rcases List.mem_cons.mp h with h | h
        · exact h
        · exact absurd h hv
      subst e
      rw [wipe_set_comm hv, List.set_set]
theorem wipe_wipe {σ : L2.St} : ∀ (us vs : List Nat), (∀ u ∈ us, u ∈ vs) → L2.wipe (L2.wipe σ us) vs = L2.wipe σ vs
  | [], _, _ => rfl
  | u :: us, vs, h => by
    show L2.wipe ((L2.wipe σ us).set u none) vs = L2.wipe σ vs
    rw [wipe_set_in (h u List.mem_cons_self)]
    exact wipe_wipe us vs fun x hx => h x (List.mem_cons_of_mem _ hx)
theorem wipe_sets {σ : L2.St} {vs : List Nat} : ∀ {is : List Nat} {xs : List V} {σ : L2.St}, (∀ i ∈ is, i ∈ vs) → L2.wipe (setS σ is xs) vs = L2.wipe σ vs
  | [], _, _, _ => by unfold setS; rfl
  | _ :: _, [], _, _ => by unfold setS; rfl
  | i :: is, x :: xs, σ, h => by
    unfold setS
    rw [wipe_sets (σ := σ) fun j hj => h j (List.mem_cons_of_mem _ hj), wipe_set_in (h i List.mem_cons_self)]
/-- a comprehension's target: one name, or several -/
inductive CT where
  | one (i : Nat) | many (is : List Nat) | nest (i : Nat) (is : List Nat)
def CT.slots : CT → List Nat
  | .one i => [i]
  | .many is => is
  | .nest i is => i :: is
def CT.g : CT → GD
  | .one i => gN i
  | .many is => gTs is
  | .nest i is => fun d env s Q => ∃ a b, d = .tup [a, b] ∧ gTs is b (env.set i (some a)) s Q
def CT.t (K : PySem.W.Frag) : CT → TG
  | .one i => gName i
  | .many is => gTup K is.length (gNames is)
  | .nest i is => gTup K 2 (gCons (gName i) (gCons (gTup K is.length (gNames is)) gNil))
theorem CT.mono : ∀ c : CT, MonoG c.g
  | .one _ => mono_gN
  | .many _ => mono_gTs
  | .nest _ _ => fun _ _ _ _ _ f ⟨a, b, e, q⟩ => ⟨a, b, e, mono_gTs _ _ _ _ _ f q⟩
/-- the target's reading, the slots of the block alone changed -/
theorem CT.rd {K : KK} {B : List Addr} {H : Hp} {A : List Addr} {s : Sto} {env : En} {σ : L2.St} {d : D} {v : V} {vs : List Nat} (c : CT) (hs : ∀ i ∈ c.slots, i ∈ vs) (w : Wo K B H A s env (L2.wipe σ vs)) (dv : Dat K (Fz B H A s) A d v) {P : En → Sto → Prop} {Q : L2.St → Hp → Prop}
    (h : c.g d env s P) (k : ∀ env' σ', P env' s → Wo K B H A s env' σ' → Q σ' H) : c.t K v (L2.wipe σ vs) H fun σ2 H2 => L2.wipe σ2 vs = L2.wipe σ vs ∧ Q σ2 H2 := by
  cases c with
  | one i =>
    refine ⟨?_, k _ _ h ⟨w.rs, w.re.set i dv, w.z⟩⟩
    rw [wipe_set_in (hs i List.mem_cons_self)]
    exact wipe_wipe vs vs fun _ h => h
  | many is =>
    obtain ⟨ds, ed, hl, q⟩ := h
    subst ed
    cases dv with
    | tup hq hd =>
      refine ⟨_, _, rfl, sqT_fz hq, by rw [hd.length]; exact hl, by rw [hd.length]; exact hl, ?_, k _ _ q ⟨w.rs, w.re.sets hd, w.z⟩⟩
      rw [wipe_sets (σ := σ) (is := is) (show ∀ i ∈ is, i ∈ vs from hs)]
      exact wipe_wipe vs vs fun _ h => h
  | nest i is =>
    obtain ⟨a, b, ed, ds, eb, hl, q⟩ := h
    subst ed
    subst eb
    cases dv with
    | tup hq hd =>
      cases hd with
      | cons da hd =>
        cases hd with
        | cons db hd =>
          cases hd
          cases db with
          | tup hq2 hd2 =>
            refine ⟨_, _, rfl, sqT_fz hq, rfl, _, _, rfl, _, _, rfl, ⟨_, _, rfl, sqT_fz hq2, by rw [hd2.length]; exact hl, by rw [hd2.length]; exact hl, rfl, ?_, k _ _ q ⟨w.rs, (w.re.set i da).sets hd2, w.z⟩⟩⟩
            have h2 : ∀ j ∈ is, j ∈ vs := fun j hj => hs j (List.mem_cons_of_mem _ hj)
            rw [wipe_sets (σ := σ) h2, wipe_set_in (hs i List.mem_cons_self)]
            exact wipe_wipe vs vs fun _ h => h
def lcD (g : Sto → Prop) (tg : GD) (tt : TD) (te : ED) (env : En) : List D → Sto → (List D → Sto → Prop) → Prop
  | [], s, Q => g s ∧ Q [] s
  | d :: ds, s, Q => g s ∧ tg d env s fun env1 s1 => tt env1 s1 fun b s2 => if b = true then te env1 s2 fun y s3 => lcD g tg tt te env ds s3 fun ys s4 => Q (y :: ys) s4 else lcD g tg tt te env ds s2 Q
theorem mono_lcD {g : Sto → Prop} {tg : GD} {tt : TD} {te : ED} (mg : MonoG tg) (mt : Mono tt) (me : Mono te) {env : En} : ∀ (ds : List D) (s : Sto) (P P' : List D → Sto → Prop), (∀ d s', P d s' → P' d s') → lcD g tg tt te env ds s P → lcD g tg tt te env ds s P'
  | [], _, _, _, f, ⟨h1, h2⟩ => ⟨h1, f _ _ h2⟩
  | d :: ds, _, P, P', f, ⟨h1, h2⟩ => ⟨h1, mg _ _ _ _ _ (fun env1 s1 h3 => mt _ _ _ _ (fun b s2 h4 => by
    cases b with
    | true => rw [if_pos rfl] at h4 ⊢; exact me _ _ _ _ (fun y s3 h5 => mono_lcD mg mt me ds _ _ _ (fun ys s4 h6 => f _ _ h6) h5) h4
    | false => rw [if_neg Bool.false_ne_true] at h4 ⊢; exact mono_lcD mg mt me ds _ _ _ f h4) h3) h2⟩
/-- [elt for tg in it if ..], hidden while it is made -/
def dLcc (it : ID) (tg : GD) (tt : TD) (te : ED) (vs : List Nat) : AD := fun env s Q => it env s fun ds g s1 => ds.length ≤ sizeLine ∧ lcD g tg tt te (wipeE env vs) ds s1 Q
theorem mono_lcc {it : ID} {tg : GD} {tt : TD} {te : ED} {vs : List Nat} (mi : MonoI it) (mg : MonoG tg) (mt : Mono tt) (me : Mono te) : Mono (dLcc it tg tt te vs) := fun _ _ _ _ f h => mi _ _ _ _ (fun ds g s1 ⟨hl, q⟩ => ⟨hl, mono_lcD mg mt me _ _ _ _ f q⟩) h
section
variable {K : PySem.W.Frag} {B : List Addr} {H : Hp} {A : List Addr} {s : Sto} {D0 : Addr}
theorem fz_hide : Same (Fz (D0 :: B) H A s) (Fz B H A s) := fun b u h => by
  obtain ⟨h1, h2, h3⟩ := fz_of h
  exact fz_to h1 h2 (fun z => h3 (List.mem_cons_of_mem _ z)) (fz_nt h)
/-- a new object is hidden -/
theorem RepS.hide (R : RepS K B H A s) {o : HO} (hn : H D0 = none) (nt : HidO o := by exact ⟨(fun _ z => nomatch z), (fun _ z => nomatch z), (fun _ z => nomatch z)⟩) : RepS K (D0 :: B) (upd H D0 o) A s ∧ Same (Fz B H A s) (Fz (D0 :: B) (upd H D0 o) A s) := by
  have ne : ∀ a, H a ≠ none → a ≠ D0 := fun a ha z => ha (by rw [z]; exact hn)
  have e1 : Same (Fz B H A s) (Fz (D0 :: B) (upd H D0 o) A s) := fun b u h => by
    obtain ⟨h1, h2, h3⟩ := fz_of h
    have nb : b ≠ D0 := ne_of_none h1 hn
    exact fz_to (by rw [upd_ne nb]; exact h1) h2 (fun z => (List.mem_cons.mp z).elim nb h3) (fz_nt h)
  refine ⟨⟨R.len, R.inj, fun a ha => ?_, fun b hb => ?_, fun b hb => ?_, fun b hb => ?_, fun a ha => by rw [upd_ne (ne a (R.hd a ha))]; exact R.hx a ha, tabs_new R.tb hn, fun l mo h => ?_⟩, e1⟩
  · rw [upd_ne (ne a (R.hd a ha))]; exact R.hd a ha
  · rcases List.mem_cons.mp hb with e | hb
    · rw [e, upd_same]; exact fun z => nomatch z
    · rw [upd_ne (ne b (R.hb b hb))]; exact R.hb b hb
  · rcases List.mem_cons.mp hb with e | hb
    · rw [e]; exact fun z => R.hd _ z hn
    · exact R.ab b hb
  · rcases List.mem_cons.mp hb with e | hb
    · rw [e, upd_same]; exact fun u z => Option.some.inj z ▸ nt
    · rw [upd_ne (ne b (R.hb b hb))]; exact R.ht b hb
  · obtain ⟨a, ha, ho⟩ := R.ob l mo h
    exact ⟨a, ha, ho.mono e1 (fun _ _ h => h) (upd_ne (ne a (R.hd a (List.mem_of_getElem? ha))))⟩
/-- the hidden object changes -/
theorem RepS.hidW (R : RepS K (D0 :: B) H A s) {o : HO} (nt : HidO o := by exact ⟨(fun _ z => nomatch z), (fun _ z => nomatch z), (fun _ z => nomatch z)⟩) : RepS K (D0 :: B) (upd H D0 o) A s ∧ Same (Fz (D0 :: B) H A s) (Fz (D0 :: B) (upd H D0 o) A s) := by
  have nA : ∀ a ∈ A, a ≠ D0 := fun a ha z => R.ab D0 List.mem_cons_self (by rw [← z]; exact ha)
  have e1 : Same (Fz (D0 :: B) H A s) (Fz (D0 :: B) (upd H D0 o) A s) := fun b u h => by
    obtain ⟨h1, h2, h3⟩ := fz_of h
    exact fz_to (by rw [upd_ne (fun z => h3 (by rw [z]; exact List.mem_cons_self))]; exact h1) h2 h3 (fz_nt h)
  refine ⟨⟨R.len, R.inj, fun a ha => ?_, fun b hb => ?_, R.ab, fun b hb => ?_, fun a ha => by rw [upd_ne (nA a ha)]; exact R.hx a ha, tabs_upd R.tb fun u e => ⟨(R.ht D0 List.mem_cons_self u e).b, (R.ht D0 List.mem_cons_self u e).x⟩, fun l mo h => ?_⟩, e1⟩
  · rw [upd_ne (nA a ha)]; exact R.hd a ha
  · by_cases e : b = D0
    · rw [e, upd_same]; exact fun z => nomatch z
    · rw [upd_ne e]; exact R.hb b hb
  · by_cases e : b = D0
    · rw [e, upd_same]; exact fun u z => Option.some.inj z ▸ nt
    · rw [upd_ne e]; exact R.ht b hb
  · obtain ⟨a, ha, ho⟩ := R.ob l mo h
    exact ⟨a, ha, ho.mono e1 (fun _ _ h => h) (upd_ne (nA a (List.mem_of_getElem? ha)))⟩
/-- it is hidden no more, and never changes -/
theorem RepS.show (R : RepS K (D0 :: B) H A s) : RepS K B H A s :=
  ⟨R.len, R.inj, R.hd, fun b hb => R.hb b (List.mem_cons_of_mem _ hb), fun b hb => R.ab b (List.mem_cons_of_mem _ hb), fun b hb => R.ht b (List.mem_cons_of_mem _ hb), R.hx, R.tb, fun l mo h => let ⟨a, ha, ho⟩ := R.ob l mo h; ⟨a, ha, ho.mono fz_hide (fun _ _ h => h) rfl⟩⟩
/-- it is hidden no more, and stands in the store -/
theorem RepS.adopt (R : RepS K (D0 :: B) H A s) {mo : MO} (hb0 : D0 ∉ B) (new : ObR K (Fz (D0 :: B) H A s) A H D0 mo) (lv : mo.live = true := by rfl) : RepS K B H (A ++ [D0]) (s ++ [some mo]) ∧ Same (Fz (D0 :: B) H A s) (Fz B H (A ++ [D0]) (s ++ [some mo])) := by
  have nD : D0 ∉ A := R.ab D0 List.mem_cons_self
  have e1 : Same (Fz (D0 :: B) H A s) (Fz B H (A ++ [D0]) (s ++ [some mo])) := fun b u h => by
    obtain ⟨h1, h2, h3⟩ := fz_of h
    exact fz_to h1 (fun z => ((live_app R.len lv).mp z).elim h2 fun e => h3 (by rw [e]; exact List.mem_cons_self)) (fun z => h3 (List.mem_cons_of_mem _ z)) (fz_nt h)
  refine ⟨⟨by simp [R.len], ?_, fun a ha => ?_, fun b hb => R.hb b (List.mem_cons_of_mem _ hb), fun b hb => ?_, fun b hb => R.ht b (List.mem_cons_of_mem _ hb), fun a ha ps z => by
      rcases List.mem_append.mp ha with ha | ha
      · exact R.hx a ha ps z
      · rw [List.mem_singleton.mp ha] at z; exact (R.ht D0 List.mem_cons_self _ z).b ps rfl, R.tb, fun l mo' h => ?_⟩, e1⟩
  · rw [List.nodup_append]
    refine ⟨R.inj, by simp, fun a ha b hb z => ?_⟩
    have : b = D0 := by simpa using hb
    subst this; subst z
    exact nD ha
  · rcases List.mem_append.mp ha with ha | ha
    · exact R.hd a ha
    · have : a = D0 := by simpa using ha
      subst this; exact R.hb _ List.mem_cons_self
  · intro z
    rcases List.mem_append.mp z with z | z
    · exact R.ab b (List.mem_cons_of_mem _ hb) z
    · have : b = D0 := by simpa using z
      subst this; exact hb0 hb
  · rcases Nat.lt_or_ge l s.length with hlt | hge
    · rw [List.getElem?_append_left hlt] at h
      obtain ⟨a, ha, ho⟩ := R.ob l mo' h
      exact ⟨a, pre_app _ _ ha, ho.mono e1 pre_app rfl⟩
    · rw [List.getElem?_append_right hge] at h
      have e : l - s.length = 0 := by
        rcases Nat.eq_zero_or_pos (l - s.length) with z | z
        · exact z
        · rw [List.getElem?_eq_none (by simp only [List.length_singleton]; omega)] at h; cases h
      rw [e] at h
      have h' : mo = mo' := by simpa using h
      subst h'
      have : l = s.length := by omega
      subst this
      exact ⟨D0, by rw [← R.len]; simp, new.mono e1 pre_app rfl⟩
end
section
variable {pos : Pos}
/-- how the made list stands behind the comprehension -/
structure LcEnd (K : PySem.W.Frag) (B : List Addr) (D0 : Addr) (H1 : Hp) (A1 : List Addr) (s1 : Sto) (H : Hp) (A : List Addr) (s : Sto) (ds : List D) : Prop where
  rs : RepS K (D0 :: B) H A s
  same : Same (Fz B H1 A1 s1) (Fz (D0 :: B) H A s)
  pre : ∀ (l : Nat) (a : Addr), A1[l]? = some a → A[l]? = some a
  hid : ∀ b ∈ B, H b = H1 b
  nb : D0 ∉ B
  it : ∃ vs, H D0 = some (.lst vs) ∧ DatL K (Fz (D0 :: B) H A s) A ds vs
theorem lc_rd {it : ID} {c : CT} {tt : TD} {te : ED} {own : List Nat} (mi : MonoI it) (mt : Mono tt) (me : Mono te) (hs : ∀ i ∈ c.slots, i ∈ own) {K : KK} {B : List Addr} {H : Hp} {A : List Addr} {s : Sto} {env : En} {σ : L2.St} {P : List D → Sto → Prop} {Q : VK}
    (w : Wo K B H A s env σ) (h : dLcc it c.g tt te own env s P)
    (fin : ∀ (ds : List D) (s1 s2 : Sto) (D0 : Addr) (H1 H2 : Hp) (A1 A2 : List Addr), P ds s2 → Ext B H A s H1 A1 s1 → LcEnd K B D0 H1 A1 s1 H2 A2 s2 ds → Q (.ref D0) H2) :
    tLc (rdI K it) (c.t K) (rdT (kk0 K.K) tt) (rdE (kk0 K.K) te) own σ H Q := by
  refine ⟨env, s, A, B, w, mi _ _ _ _ (fun ds gd s1 q J H1 A1 r1 e1 ok => ?_) h⟩
  obtain ⟨hlen, q⟩ := q
  intro D0 hD0
  have w1 := w.to r1 e1
  obtain ⟨r1', s1'⟩ := r1.hide (D0 := D0) (o := .lst []) hD0
  have nb : D0 ∉ B := fun z => r1.hb D0 z hD0
  let P2 : Nat → Hp → Prop := fun i H' => ∃ (s' : Sto) (A' : List Addr) (acc : List D), LcEnd K B D0 H1 A1 s1 H' A' s' acc ∧ RepE K (Fz (D0 :: B) H' A' s') A' (wipeE env own) (L2.wipe σ own) ∧ acc.length ≤ i ∧
    lcD gd c.g tt te (wipeE env own) (ds.drop i) s' fun ys s4 => P (acc ++ ys) s4
  refine ⟨fun i m H' => m = ds.length - i ∧ i ≤ ds.length ∧ P2 i H', ⟨ds.length, by simp, Nat.zero_le _, s1, A1, [], ⟨r1', s1', fun _ _ h => h, fun b hb => upd_ne (fun z => nb (by rw [← z]; exact hb)), nb, [], upd_same, .nil⟩, ?_, Nat.zero_le _, by simpa using q⟩, ?_⟩
  · have := (w1.re.wipe own)
    exact ⟨this.len, fun i d hd => let ⟨v, h1, h2⟩ := this.get i d hd; ⟨v, h1, h2.mono s1' fun _ _ h => h⟩⟩
  rintro i m H2 ⟨rfl, hi, s2, A2, acc, le, re2, hacc, q2⟩
  have okw := ok (D0 :: B) H2 A2 s2 le.rs le.same le.pre
  by_cases hlt : i < ds.length
  · have hd : ds[i]? = some ds[i] := List.getElem?_eq_getElem hlt
    rw [drop_cons hd] at q2
    obtain ⟨hgd, q3⟩ := q2
    obtain ⟨go, yl⟩ := (okw hgd i).1 _ hd
    refine .inr ⟨go, P2 (i + 1), fun H' n => ⟨ds.length - (i + 1), by omega, rfl, hlt, n⟩, fun x H3 y => ?_⟩
    obtain ⟨r3, e3, d3⟩ := yl x H3 y
    have w3 : Wo (kk0 K.K) (D0 :: B) H3 A2 s2 (wipeE env own) (L2.wipe σ own) := (Wo.mk (K := kk0 K.K) le.rs re2 trivial).to r3 e3
    -- how things stand behind any step from here
    have step : ∀ {H' : Hp} {A' : List Addr} {s' : Sto}, RepS K (D0 :: B) H' A' s' → Ext (D0 :: B) H2 A2 s2 H' A' s' → LcEnd K B D0 H1 A1 s1 H' A' s' acc ∧ RepE K (Fz (D0 :: B) H' A' s') A' (wipeE env own) (L2.wipe σ own) := fun {H' A' s'} r' e' => by
      obtain ⟨vs, hv, dv⟩ := le.it
      exact ⟨⟨r', le.same.trans e'.same, fun l a h => e'.pre l a (le.pre l a h), fun b hb => (e'.hid b (List.mem_cons_of_mem _ hb)).trans (le.hid b hb), nb, vs, (e'.hid D0 List.mem_cons_self).trans hv, dv.ext e'⟩, re2.ext e'⟩
    refine c.rd (K := kk0 K.K) hs w3 d3 q3 fun env4 σ4 q4 w4 => ?_
    refine rdT_go mt w4 q4 fun b s5 H5 A5 q5 w5 e5 => ?_
    cases b with
    | false =>
      rw [if_neg Bool.false_ne_true] at q5 ⊢
      obtain ⟨le5, re5⟩ := step w5.rs (e3.trans e5)
      exact ⟨s5, A5, acc, le5, re5, Nat.le_succ_of_le hacc, q5⟩
    | true =>
      rw [if_pos rfl] at q5 ⊢
      refine rdE_go me w5 q5 fun y s6 v6 H6 A6 q6 w6 e6 d6 => ?_
      obtain ⟨le6, re6⟩ := step w6.rs ((e3.trans e5).trans e6)
      obtain ⟨vs, hv, dv⟩ := le6.it
      refine ⟨vs, hv, by rw [dv.length]; omega, ?_⟩
      obtain ⟨r7, s7⟩ := le6.rs.hidW (o := .lst (vs ++ [v6]))
      refine ⟨s6, A6, acc ++ [y], ⟨r7, le6.same.trans s7, le6.pre, fun b hb => (upd_ne (fun z => nb (by rw [← z]; exact hb))).trans (le6.hid b hb), nb, _, upd_same, ?_⟩, ?_, by simp; exact hacc, ?_⟩
      · exact (dv.append (.cons d6 .nil)).mono s7 fun _ _ h => h
      · exact ⟨re6.len, fun i d hd => let ⟨v, h1, h2⟩ := re6.get i d hd; ⟨v, h1, h2.mono s7 fun _ _ h => h⟩⟩
      · exact mono_lcD c.mono mt me _ _ _ _ (fun ys s4 h4 => by rw [List.append_assoc]; exact h4) q6
  · have : i = ds.length := by omega
    subst this
    rw [List.drop_length] at q2
    obtain ⟨hgd, q3⟩ := q2
    rw [List.append_nil] at q3
    exact .inl ⟨(okw hgd _).2 (Nat.le_refl _), fin acc s1 s2 D0 H1 H2 A1 A2 q3 e1 le⟩
/-- the list never changes -/
def dLc (it : ID) (tg : GD) (tt : TD) (te : ED) (vs : List Nat) : ED := fun env s Q => dLcc it tg tt te vs env s fun ds s1 => Q (.lst ds) s1
/-- it may change -/
def dLcN (it : ID) (tg : GD) (tt : TD) (te : ED) (vs : List Nat) : ED := fun env s Q => dLcc it tg tt te vs env s fun ds s1 => Q (.ref s1.length) (s1 ++ [some (.lst ds)])
theorem mono_lc {it : ID} {tg : GD} {tt : TD} {te : ED} {vs : List Nat} (mi : MonoI it) (mg : MonoG tg) (mt : Mono tt) (me : Mono te) : Mono (dLc it tg tt te vs) := fun _ _ _ _ f h => mono_lcc mi mg mt me _ _ _ _ (fun _ _ q => f _ _ q) h
theorem mono_lcN {it : ID} {tg : GD} {tt : TD} {te : ED} {vs : List Nat} (mi : MonoI it) (mg : MonoG tg) (mt : Mono tt) (me : Mono te) : Mono (dLcN it tg tt te vs) := fun _ _ _ _ f h => mono_lcc mi mg mt me _ _ _ _ (fun _ _ q => f _ _ q) h
theorem lc_rdF {it : ID} {c : CT} {tt : TD} {te : ED} {own : List Nat} (mi : MonoI it) (mt : Mono tt) (me : Mono te) (hs : ∀ i ∈ c.slots, i ∈ own) {K : KK} (σ : L2.St) (H : Hp) (Q : VK) (h : rdE K (dLc it c.g tt te own) σ H Q) : tLc (rdI K it) (c.t K) (rdT (kk0 K.K) tt) (rdE (kk0 K.K) te) own σ H Q := by
  obtain ⟨env, s, A, B, w, h⟩ := h
  refine lc_rd mi mt me hs w h fun ds s1 s2 D0 H1 H2 A1 A2 p e1 le => ?_
  obtain ⟨vs, hv, dv⟩ := le.it
  refine p _ _ _ le.rs.show (e1.trans ⟨le.same.trans fz_hide, le.pre, le.hid⟩) (.lst (fz_to hv (fun ⟨l, mo, h1, h2, _⟩ => le.rs.ab D0 List.mem_cons_self (List.mem_of_getElem? h2)) le.nb) (dv.mono fz_hide fun _ _ h => h))
theorem lc_rdN {it : ID} {c : CT} {tt : TD} {te : ED} {own : List Nat} (mi : MonoI it) (mt : Mono tt) (me : Mono te) (hs : ∀ i ∈ c.slots, i ∈ own) {K : KK} (σ : L2.St) (H : Hp) (Q : VK) (h : rdE K (dLcN it c.g tt te own) σ H Q) : tLc (rdI K it) (c.t K) (rdT (kk0 K.K) tt) (rdE (kk0 K.K) te) own σ H Q := by
  obtain ⟨env, s, A, B, w, h⟩ := h
  refine lc_rd mi mt me hs w h fun ds s1 s2 D0 H1 H2 A1 A2 p e1 le => ?_
  obtain ⟨vs, hv, dv⟩ := le.it
  obtain ⟨r3, s3⟩ := le.rs.adopt (mo := .lst ds) le.nb ⟨vs, hv, dv⟩
  exact p _ _ _ r3 (e1.trans ⟨le.same.trans s3, fun l a h => pre_app _ _ (le.pre l a h), le.hid⟩) (.ref (by rw [← le.rs.len]; simp))
section
variable {elt tg iter : Expr} {ifs : List Expr} {scope : Scope} {own : List (Str × Nat)} {it : ID} {tt : TD} {te : ED}
/-- what its parts ask -/
structure LcP (X : DX) (elt tg : Expr) (ifs : List Expr) (scope : Scope) (c : CT) (tt : TD) (te : ED) : Prop where
  hg : ∀ (s : Shared) (H : Hp) (C : Addr) (cl : List (Str × Addr)) (fp : List Addr), PG (X.blk s H scope (compEnvC scope cl C X.env) fp) tg (c.t X.K)
  ht : ∀ (s : Shared) (H : Hp) (C : Addr) (cl : List (Str × Addr)) (fp : List Addr), PTsD (dx0 (X.blk s H scope (compEnvC scope cl C X.env) fp)) ifs tt
  he : ∀ (s : Shared) (H : Hp) (C : Addr) (cl : List (Str × Addr)) (fp : List Addr), PD (dx0 (X.blk s H scope (compEnvC scope cl C X.env) fp)) elt te
theorem pd_lc {X : DX} (c : CT) (hc : X.calm = true) (hN : X.N.Nodup) (hi : PID X tg iter it) (ok : BlkOk X.N X.env.scope scope own) (p : LcP X elt tg ifs scope c tt te) (sl : ∀ i ∈ c.slots, i ∈ own.map (·.2))
    (hs : ∀ x, foldedSetIterable iter X.env x = pure x := by intro _; rfl) : PD X (.ListComp elt [⟨tg, iter, ifs, 0⟩] scope pos) (dLc it c.g tt te (own.map (·.2))) :=
  have mt : Mono tt := (p.ht X.s_0 (fun _ => none) 0 [] []).mono
  have me : Mono te := (p.he X.s_0 (fun _ => none) 0 [] []).mono
  ⟨pe_imp (pe_lc hc hN hi.pi ok p.hg (fun s H C cl fp => (p.ht s H C cl fp).pts) (fun s H C cl fp => (p.he s H C cl fp).pe) hs) (lc_rdF hi.mono mt me sl), mono_lc hi.mono c.mono mt me⟩
/-- name = [..] on one line -/
theorem psd_setLc {X : DX} (c : CT) {i : Nat} {y : Str} {py spos : Pos} (hc : X.calm = true) (hN : X.N.Nodup) (hy : X.N[i]? = some y) (hyl : X.env.scope.names.lookup y = some .local)
    (hsw : swapsWith (.ListComp elt [⟨tg, iter, ifs, 0⟩] scope pos) (some (.Name y py)) spos.line X.env = pure true) (hi : PID X tg iter it) (ok : BlkOk X.N X.env.scope scope own) (p : LcP X elt tg ifs scope c tt te) (sl : ∀ i ∈ c.slots, i ∈ own.map (·.2))
    (hs : ∀ x, foldedSetIterable iter X.env x = pure x := by intro _; rfl) : PSD X (.Assign [.Name y py] (.ListComp elt [⟨tg, iter, ifs, 0⟩] scope pos) spos) (dAsg (dLc it c.g tt te (own.map (·.2))) (gN i)) :=
  have mt : Mono tt := (p.ht X.s_0 (fun _ => none) 0 [] []).mono
  have me : Mono te := (p.he X.s_0 (fun _ => none) 0 [] []).mono
  ⟨ps_imp (ps_setLc hc hN hy hyl hsw hi.pi ok p.hg (fun s H C cl fp => (p.ht s H C cl fp).pts) (fun s H C cl fp => (p.he s H C cl fp).pe) hs) fun D σ H ⟨env, s, A, B, w, h⟩ =>
    lc_rdF hi.mono mt me sl σ H _ ⟨env, s, A, B, w, mono_lc hi.mono c.mono mt me _ _ _ _ (fun d s' q v H' A' r e dv => q _ _ _ r e ((w.re.ext e).set i dv)) h⟩, mono_asg (mono_lc hi.mono c.mono mt me) mono_gN⟩
theorem psd_setLcN {X : DX} (c : CT) {i : Nat} {y : Str} {py spos : Pos} (hc : X.calm = true) (hN : X.N.Nodup) (hy : X.N[i]? = some y) (hyl : X.env.scope.names.lookup y = some .local)
    (hsw : swapsWith (.ListComp elt [⟨tg, iter, ifs, 0⟩] scope pos) (some (.Name y py)) spos.line X.env = pure true) (hi : PID X tg iter it) (ok : BlkOk X.N X.env.scope scope own) (p : LcP X elt tg ifs scope c tt te) (sl : ∀ i ∈ c.slots, i ∈ own.map (·.2))
    (hs : ∀ x, foldedSetIterable iter X.env x = pure x := by intro _; rfl) : PSD X (.Assign [.Name y py] (.ListComp elt [⟨tg, iter, ifs, 0⟩] scope pos) spos) (dAsg (dLcN it c.g tt te (own.map (·.2))) (gN i)) :=
  have mt : Mono tt := (p.ht X.s_0 (fun _ => none) 0 [] []).mono
  have me : Mono te := (p.he X.s_0 (fun _ => none) 0 [] []).mono
  ⟨ps_imp (ps_setLc hc hN hy hyl hsw hi.pi ok p.hg (fun s H C cl fp => (p.ht s H C cl fp).pts) (fun s H C cl fp => (p.he s H C cl fp).pe) hs) fun D σ H ⟨env, s, A, B, w, h⟩ =>
    lc_rdN hi.mono mt me sl σ H _ ⟨env, s, A, B, w, mono_lcN hi.mono c.mono mt me _ _ _ _ (fun d s' q v H' A' r e dv => q _ _ _ r e ((w.re.ext e).set i dv)) h⟩, mono_asg (mono_lcN hi.mono c.mono mt me) mono_gN⟩
end
end
abbrev SpD := List D → Sto → (D → Sto → Prop) → XD → Prop
def PostX (K : PySem.W.Frag) (mg : Str → Option Value) (B : List Addr) (H : Hp) (A : List Addr) (s : Sto) (E : XK) : XD := fun x fs s' => ∀ (cls : Value) (dx : Option Addr) (H' : Hp) (A' : List Addr), mg x = some cls → RepS K B H' A' s' → Ext B H A s H' A' s' → XRep K (Fz B H' A' s') A' fs dx → E cls dx H'
def liftSp (K : PySem.W.Frag) (mg : Str → Option Value) (sp : SpD) : Sp := fun vs H Q E => ∃ (ds : List D) (s : Sto) (A B : List Addr), RepS K B H A s ∧ DatL K (Fz B H A s) A ds vs ∧ sp ds s (PostE K B H A s Q) (PostX K mg B H A s E)
def MonoSp (sp : SpD) : Prop := ∀ ds s P P' E E', (∀ d s', P d s' → P' d s') → (∀ c fs s', E c fs s' → E' c fs s') → sp ds s P E → sp ds s P' E'
/-- room, and no text of a thing is being made -/
structure RoomG (k : Nat) (A : Around) : Prop where
  r : Room k A
  g : A.guards = some []
theorem RoomG.mono {j k : Nat} {A : Around} (r : RoomG k A) (h : j ≤ k) : RoomG j A := ⟨r.r.mono h, r.g⟩
theorem RoomG.deeper {k : Nat} {A : Around} (r : RoomG (k + 1) A) (env : PySem.Env) : RoomG k (A.deeper env) := ⟨r.r.deeper env, r.g⟩
theorem RoomG.units {k : Nat} {A : Around} (r : RoomG k A) : A.units + 64 < cLine := r.r.units
/-- a def keeps its promise -/
structure FnD (P : Program) (w : World) (K : PySem.W.Frag) (mg : Str → Option Value) (base : Heap) (CX : CXT) (k : Nat) (f : Addr) (fd : FuncData) (ps : List Str) (sp : SpD) : Prop where
  len : ∀ ds s Q E, sp ds s Q E → ds.length = ps.length
  run : ∀ (A : Around) (outer : List PySem.Env) (s : Shared) (H : Hp) (args : Args) (us : List Value) (vs : List V) (Q : VK) (E : XK), RoomG k A → Env0 P w K mg base A outer s H → BindsTo s fd args (ps.zip us) → Vals vs us → liftSp K mg sp vs H Q E →
    codeAny (model P w) A (.call (.ref f) args) (CR CX outer P w H s Q E) s
  mono : MonoSp sp
theorem FnD.up {P : Program} {w : World} {K : PySem.W.Frag} {mg : Str → Option Value} {base : Heap} {CX : CXT} {j k : Nat} {f : Addr} {fd : FuncData} {ps : List Str} {sp : SpD} (F : FnD P w K mg base CX j f fd ps sp) (h : j ≤ k) : FnD P w K mg base CX k f fd ps sp :=
  ⟨F.len, fun A outer s H args us vs Q E hr => F.run A outer s H args us vs Q E (hr.mono h), F.mono⟩
theorem liftSp.len {K : PySem.W.Frag} {mg : Str → Option Value} {sp : SpD} {ps : List Str} (h : ∀ ds s Q E, sp ds s Q E → ds.length = ps.length) {vs : List V} {H : Hp} {Q : VK} {E : XK} (q : liftSp K mg sp vs H Q E) : vs.length = ps.length := by
  obtain ⟨ds, s, A, B, _, d, q⟩ := q
  rw [d.length]; exact h _ _ _ _ q
section
variable {pos p : Pos} {CX : CXT} {k : Nat} {f : Addr} {fd : FuncData} {ps : List Str} {sp : SpD} {x : Str} {e : Expr} {es : List Expr} {t : AD} {ds : List Value} {dvs : List V} {dds : List D}
/-- the callee runs (args: as they are written; zs: as they are bound) -/
theorem FnD.go {X : Cx} {pins : List (Addr × Obj)} {σ : L2.St} {H : Hp} {s : Shared} {Q : VK} {E : XK} {us zs : List Value} {kw : List (Str × Value)} {vs : List V} (F : FnD X.prog X.w X.K X.mg X.base CX k f fd ps sp) (hr : RoomG k X.A) (hx : PassesAt CX X σ E) (I : Inv X pins σ H s)
    (b : BindsTo s fd ⟨us, kw⟩ (ps.zip zs)) (r : Vals vs zs) (h : liftSp X.K X.mg sp vs H Q E) : wpAny (model X.prog X.w) X.A (call (.ref f) us kw) (EP X pins σ Q) X.xe s := by
  have c := F.run X.A X.stack s H ⟨us, kw⟩ zs vs Q E hr I.env0 b r h
  refine wpAny_call (codeAny_mono c fun o s1 ho => ?_)
  match o, ho with
  | .error e, ho => exact hx pins H s e s1 I ho
  | .ok (.ret u), ho => exact I.after ho
/-- a call (dds: the defaults) -/
def dCall (sp : SpD) (dds : List D) (t : AD) : ED := fun env s Q => t env s fun xs s1 => sp (xs ++ dds) s1 Q fun _ _ _ => False
theorem mono_call (ms : MonoSp sp) (mt : Mono t) : Mono (dCall sp dds t) := fun _ _ _ _ g h => mt _ _ _ _ (fun _ _ q => ms _ _ _ _ _ _ g (fun _ _ _ h => h) q) h
def tCallG (K : PySem.W.Frag) (mg : Str → Option Value) (sp : SpD) (dvs : List V) (E : L2.St → XK) (t : TA) : TE := fun σ H Q => t σ H fun vs H1 => liftSp K mg sp (vs ++ dvs) H1 Q (E σ)
theorem pe_callG {X : Cx} {E : L2.St → XK} {t : TA} (F : FnD X.prog X.w X.K X.mg X.base CX k f fd ps sp) (hr : RoomG k X.A) (hg : Gl X x) (hm : X.mg x = some (.ref f)) (hk : PySem.W.keepIn X.K (.ref f) = true) (hb : Binds X.K fd ps ds) (hd : Vals dvs ds) (hx : ∀ σ, PassesAt CX X σ (E σ)) (ha : PA X (e :: es) t)
    (h1 : starEach (e :: es) X.env = (false, eval e X.env) :: starEach es X.env) (hpl : (backTo pos (starEach es X.env)).any (·.1) = false) (hdb : (x == ("__debug__" : Str)) = false) : PE X (.Call (.Name x p) (e :: es) [] pos) (tCallG X.K X.mg sp dvs E t) := by
  constructor
  intro pins s σ H Q I h
  apply wpAny_Call_Name_kw
  refine ld_glob I hg hm ?_ hdb
  have args := ha.run pos pins s σ H _ I h
  refine PySem.W.callWith_K (h₀ := X.base) I.ok.mod.kin hk (thn args fun us s1 z => ?_) h1 hpl
  obtain ⟨vs, H1, J, r, q⟩ := z
  have r2 := r.append hd
  exact ⟨J.kIn, F.go hr (hx σ) J (hb s1 us J.kIn (r2.length.symm.trans (liftSp.len F.len q))) r2 q⟩
theorem pd_call {X : DX} (F : FnD X.prog X.w X.K X.mg X.base CX0 k f fd ps sp) (hr : RoomG k X.A) (hg : Gl X x) (hm : X.mg x = some (.ref f)) (hk : PySem.W.keepIn X.K (.ref f) = true) (hb : Binds X.K fd ps ds) (hd : Vals dvs ds) (hdd : ∀ (F : Hp) (A : List Addr), DatL X.K F A dds dvs) (ha : PAD X (e :: es) t)
    (h1 : starEach (e :: es) X.env = (false, eval e X.env) :: starEach es X.env := by rfl) (hpl : (backTo pos (starEach es X.env)).any (·.1) = false := by rfl) (hdb : (x == ("__debug__" : Str)) = false := by decide) : PD X (.Call (.Name x p) (e :: es) [] pos) (dCall sp dds t) := by
  refine ⟨pe_imp (pe_callG (E := fun _ _ _ _ => False) F hr hg hm hk hb hd (fun σ pins H s e s' I c => L2.pass0 pins σ H s e s' I c) ha.pa h1 hpl hdb) fun σ H Q ⟨env, s, A, B, w, h⟩ => ?_, mono_call F.mono ha.mono⟩
  exact rdA_go ha.mono w h fun xs s1 vs H1 A1 q w1 e1 dv => ⟨xs ++ dds, s1, A1, B, w1.rs, dv.append (hdd _ _), F.mono _ _ _ _ _ _ (fun d s' q => PostE.from e1 q) (fun _ _ _ h => h.elim) q⟩
end
end Dl
set_option Elab.async false
set_option linter.all false
set_option autoImplicit false
set_option maxRecDepth 100000
set_option maxHeartbeats 4000000
namespace Dl
open PySem PySem.Spec PyProof.Rows L2
def seqL (s : Sto) : D → Option (List D)
  | .lst ds => some ds
  | .frl ds => some ds
  | .ref l => match s[l]? with
    | some (some (.lst ds)) => some ds
    | _ => none
  | _ => none
/-- a list but the script -/
def seqM (s : Sto) : D → Option (List D)
  | .lst ds => some ds
  | .ref l => match s[l]? with
    | some (some (.lst ds)) => some ds
    | _ => none
  | _ => none
def seqT : D → Option (List D)
  | .tup ds => some ds
  | _ => none
@[simp] theorem seqL_lst (s : Sto) (ds : List D) : seqL s (.lst ds) = some ds := rfl
@[simp] theorem seqL_frl (s : Sto) (ds : List D) : seqL s (.frl ds) = some ds := rfl
@[simp] theorem seqM_lst (s : Sto) (ds : List D) : seqM s (.lst ds) = some ds := rfl
@[simp] theorem seqT_tup (ds : List D) : seqT (.tup ds) = some ds := rfl
theorem seqL_ref {s : Sto} {l : Nat} {ds : List D} (h : s[l]? = some (some (.lst ds))) : seqL s (.ref l) = some ds := by
  show (match s[l]? with | some (some (.lst ds)) => some ds | _ => none) = some ds
  rw [h]
theorem seqM_ref {s : Sto} {l : Nat} {ds : List D} (h : s[l]? = some (some (.lst ds))) : seqM s (.ref l) = some ds := by
  show (match s[l]? with | some (some (.lst ds)) => some ds | _ => none) = some ds
  rw [h]
theorem of_ref {s : Sto} {l : Nat} {ds : List D} (h : (match s[l]? with | some (some (.lst ds)) => some ds | _ => none) = some ds) : s[l]? = some (some (.lst ds)) := by
  split at h
  · rename_i q; cases h; exact q
  · cases h
section
variable {K : PySem.W.Frag} {B : List Addr} {H : Hp} {A : List Addr} {s : Sto} {x : D} {v : V} {ds : List D}
theorem of_seqM (R : RepS K B H A s) (dv : Dat K (Fz B H A s) A x v) (h : seqM s x = some ds) : ∃ a vs, v = .ref a ∧ H a = some (.lst vs) ∧ DatL K (Fz B H A s) A ds vs := by
  cases x with
  | exc _ _ => cases h
  | lst xs =>
    cases dv with
    | lst hs hd => cases h; exact ⟨_, _, rfl, (fz_of hs).1, hd⟩
  | ref l =>
    cases dv with
    | ref hA =>
      obtain ⟨a', ha', vs, hv, hd⟩ := R.ob l _ (of_ref h)
      rw [hA] at ha'; cases ha'
      exact ⟨_, vs, rfl, hv, hd⟩
  | non => cases h
  | bl _ => cases h
  | int _ => cases h
  | str _ => cases h
  | tup _ => cases h
  | frl _ => cases h
  | dk _ _ => cases h
  | dt _ _ => cases h
theorem of_seqL (R : RepS K B H A s) (dv : Dat K (Fz B H A s) A x v) (h : seqL s x = some ds) : ∃ a vs, v = .ref a ∧ SqL K H a vs ∧ DatL K (Fz B H A s) A ds vs := by
  by_cases e : ∃ xs, x = .frl xs
  · obtain ⟨xs, rfl⟩ := e
    cases dv with
    | frl hs hd => cases h; exact ⟨_, _, rfl, sqL_fz hs.seq, hd⟩
  · have h' : seqM s x = some ds := by
      cases x with
      | frl xs => exact absurd ⟨xs, rfl⟩ e
      | _ => exact h
    obtain ⟨a, vs, e1, e2, e3⟩ := of_seqM R dv h'
    exact ⟨a, vs, e1, .of e2, e3⟩
theorem of_seqT (dv : Dat K (Fz B H A s) A x v) (h : seqT x = some ds) : ∃ a vs, v = .ref a ∧ SqT K H a vs ∧ DatL K (Fz B H A s) A ds vs := by
  cases x with
  | tup xs =>
    cases dv with
    | tup hs hd => cases h; exact ⟨_, _, rfl, sqT_fz hs, hd⟩
  | lst _ => cases h
  | frl _ => cases h
  | ref _ => cases h
  | exc _ _ => cases h
  | non => cases h
  | bl _ => cases h
  | int _ => cases h
  | str _ => cases h
  | dk _ _ => cases h
  | dt _ _ => cases h
end
theorem PostE.here {K : PySem.W.Frag} {B : List Addr} {H : Hp} {A : List Addr} {s : Sto} {Q : VK} {d : D} {v : V} (R : RepS K B H A s) (h : PostE K B H A s Q d s) (dv : Dat K (Fz B H A s) A d v) : Q v H := h v H A R .refl dv
/-- a new object that never changes is handed on -/
theorem PostE.new {K : PySem.W.Frag} {B : List Addr} {H : Hp} {A : List Addr} {s : Sto} {Q : VK} {d : D} {p : Addr} {o : HO} (R : RepS K B H A s) (h : PostE K B H A s Q d s) (hp : H p = none)
    (dv : ∀ F, Same (Fz B H A s) F → F p = some o → Dat K F A d (.ref p)) (nt : ∀ ps, o ≠ .tbl ps := by exact fun _ z => nomatch z) : Q (.ref p) (upd H p o) := by
  obtain ⟨r2, e2, f2⟩ := R.laid (o := o) hp nt
  exact h _ _ _ r2 e2 (dv _ e2.same f2)
section
variable {f : Value → Value → Sem Value}
theorem opx_of {X : Cx} {r : R2} {o : O2} (h : OpR X f r) (l : ∀ (x y : D) (s : Sto) (v w : V) (H : Hp) (A B : List Addr) (Q : VK), RepS X.K B H A s → Dat X.K (Fz B H A s) A x v → Dat X.K (Fz B H A s) A y w → o x y s (PostE X.K B H A s Q) → r v w H Q) : OpX X f o := ⟨r, h, l⟩
def oII (g : Int → Int → D) : O2 := fun x y s Q => ∃ i j, x = .int i ∧ y = .int j ∧ Q (g i j) s
def oIIc (c : Int → Int → Prop) (g : Int → Int → D) : O2 := fun x y s Q => ∃ i j, x = .int i ∧ y = .int j ∧ c i j ∧ Q (g i j) s
theorem opx_ii {X : Cx} {g : Int → Int → V} {g' : Int → Int → D} (h : OpR X f (rI0 g)) (hg : ∀ i j F A, Dat X.K F A (g' i j) (g i j)) : OpX X f (oII g') := opx_of h fun x y s v w H A B Q R dv dw ⟨i, j, ex, ey, q⟩ => by
  subst ex ey
  cases dv
  cases dw
  exact ⟨i, j, rfl, rfl, q.here R (hg _ _ _ _)⟩
theorem opx_iic {X : Cx} {c : Int → Int → Prop} {g : Int → Int → V} {g' : Int → Int → D} (h : OpR X f (rI c g)) (hg : ∀ i j F A, Dat X.K F A (g' i j) (g i j)) : OpX X f (oIIc c g') := opx_of h fun x y s v w H A B Q R dv dw ⟨i, j, ex, ey, hc, q⟩ => by
  subst ex ey
  cases dv
  cases dw
  exact ⟨i, j, rfl, rfl, hc, q.here R (hg _ _ _ _)⟩
def b2n (k : Bool) : Int := if k = true then 1 else 0
def oBI (g : Int → Int → D) : O2 := fun x y s Q => ∃ k j, x = .bl k ∧ y = .int j ∧ Q (g (b2n k) j) s
def oIB (g : Int → Int → D) : O2 := fun x y s Q => ∃ i k, x = .int i ∧ y = .bl k ∧ Q (g i (b2n k)) s
theorem opr_bi {X : Cx} {g : Int → Int → V} (rule : ∀ (k : Bool) (j : Int) (u : Tok) (pins : List (Addr × Obj)) (s : Shared) (σ : L2.St) (H : Hp) (Q : VK), Inv X pins σ H s → Q (g (b2n k) j) H → wpAny (model X.prog X.w) X.A (f (.bool k) (.int j u)) (EP X pins σ Q) X.xe s) :
    OpR X f (fun x y H Q => ∃ k j, x = .bl k ∧ y = .int j ∧ Q (g (b2n k) j) H) := by
  intro pins s σ H x y v u Q I rx ry h
  obtain ⟨k, j, rfl, rfl, q⟩ := h
  cases rx
  obtain ⟨t, rfl⟩ := ry
  exact rule k j t pins s σ H Q I q
theorem opr_ib {X : Cx} {g : Int → Int → V} (rule : ∀ (i : Int) (t : Tok) (k : Bool) (pins : List (Addr × Obj)) (s : Shared) (σ : L2.St) (H : Hp) (Q : VK), Inv X pins σ H s → Q (g i (b2n k)) H → wpAny (model X.prog X.w) X.A (f (.int i t) (.bool k)) (EP X pins σ Q) X.xe s) :
    OpR X f (fun x y H Q => ∃ i k, x = .int i ∧ y = .bl k ∧ Q (g i (b2n k)) H) := by
  intro pins s σ H x y v u Q I rx ry h
  obtain ⟨i, k, rfl, rfl, q⟩ := h
  obtain ⟨t, rfl⟩ := rx
  cases ry
  exact rule i t k pins s σ H Q I q
theorem opx_bi {X : Cx} {g : Int → Int → V} {g' : Int → Int → D} (h : OpR X f (fun x y H Q => ∃ k j, x = .bl k ∧ y = .int j ∧ Q (g (b2n k) j) H)) (hg : ∀ i j F A, Dat X.K F A (g' i j) (g i j)) : OpX X f (oBI g') := opx_of h fun x y s v w H A B Q R dv dw ⟨i, j, ex, ey, q⟩ => by
  subst ex ey
  cases dv
  cases dw
  exact ⟨i, j, rfl, rfl, q.here R (hg _ _ _ _)⟩
theorem opx_ib {X : Cx} {g : Int → Int → V} {g' : Int → Int → D} (h : OpR X f (fun x y H Q => ∃ i k, x = .int i ∧ y = .bl k ∧ Q (g i (b2n k)) H)) (hg : ∀ i j F A, Dat X.K F A (g' i j) (g i j)) : OpX X f (oIB g') := opx_of h fun x y s v w H A B Q R dv dw ⟨i, j, ex, ey, q⟩ => by
  subst ex ey
  cases dv
  cases dw
  exact ⟨i, j, rfl, rfl, q.here R (hg _ _ _ _)⟩
end
def addF (s : Sto) (x y : D) : Option D :=
  match x, y with
  | .int i, .int j => some (.int (i + j))
  | .bl k, .int j => some (.int (b2n k + j))
  | .int i, .bl k => some (.int (i + b2n k))
  | .str a, .str b => if a.length + b.length ≤ sizeLine then some (.str (a ++ b)) else none
  | .tup xs, .tup ys => if xs.length + ys.length ≤ sizeLine then some (.tup (xs ++ ys)) else none
  | x, y => match seqM s x, seqM s y with
    | some xs, some ys => if xs.length + ys.length ≤ sizeLine then some (.lst (xs ++ ys)) else none
    | _, _ => none
section
theorem opx_add_str {X : Cx} : OpX X (binaryOp .Add) (fun x y s Q => ∃ a b, x = .str a ∧ y = .str b ∧ a.length + b.length ≤ sizeLine ∧ Q (.str (a ++ b)) s) := opx_of op_add_str fun x y s v w H A B Q R dv dw ⟨i, j, ex, ey, hc, q⟩ => by
  subst ex ey
  cases dv
  cases dw
  refine ⟨i, j, rfl, rfl, hc, q.here R (.str _ ?_)⟩
  show (i ++ j).length ≤ sizeLine
  rw [show (i ++ j).length = i.length + j.length from Array.size_append]
  exact hc
theorem opx_add_tup {X : Cx} : OpX X (binaryOp .Add) (fun x y s Q => ∃ a b, x = .tup a ∧ y = .tup b ∧ a.length + b.length ≤ sizeLine ∧ Q (.tup (a ++ b)) s) := opx_of op_catA fun x y s v w H A B Q R dv dw ⟨xs, ys, ex, ey, hc, q⟩ => by
  subst ex ey
  cases dv with
  | tup hs hd =>
    cases dw with
    | tup hs' hd' =>
      refine ⟨_, _, _, _, rfl, rfl, sqT_fz hs, sqT_fz hs', by rw [hd.length, hd'.length]; exact hc, fun e => ?_, fun e e' => ?_, fun _ _ p hp => q.new R hp fun F e f => .tup (.of f) ((hd.append hd').mono e fun _ _ h => h)⟩
      · subst e; cases hd; exact q.here R (.tup hs' hd')
      · subst e'; cases hd'; rw [List.append_nil] at q; exact q.here R (.tup hs hd)
theorem opx_add_lst {X : Cx} : OpX X (binaryOp .Add) (fun x y s Q => ∃ a b, seqM s x = some a ∧ seqM s y = some b ∧ a.length + b.length ≤ sizeLine ∧ Q (.lst (a ++ b)) s) := opx_of op_cat fun x y s v w H A B Q R dv dw ⟨xs, ys, ex, ey, hc, q⟩ => by
  obtain ⟨a, vs, rfl, ha, hd⟩ := of_seqM R dv ex
  obtain ⟨b, ws, rfl, hb, hd'⟩ := of_seqM R dw ey
  exact ⟨a, b, vs, ws, rfl, rfl, ha, hb, by rw [hd.length, hd'.length]; exact hc, fun p hp => q.new R hp fun F e f => .lst f ((hd.append hd').mono e fun _ _ h => h)⟩
theorem opx_add {X : Cx} : OpX X (binaryOp .Add) (oF addF) := by
  have h1 : OpX X (binaryOp .Add) (oII fun i j => .int (i + j)) := opx_ii op_add fun _ _ _ _ => .int _
  have h2 : OpX X (binaryOp .Add) (oBI fun i j => .int (i + j)) := opx_bi (g := fun i j => .int (i + j)) (opr_bi (g := fun i j => .int (i + j)) fun k j u pins s σ H Q I q => PySem.IntBool.add_bool_int ⟨.int (b2n k + j), H, I.tok _, ⟨_, rfl⟩, q⟩) fun _ _ _ _ => .int _
  have h3 : OpX X (binaryOp .Add) (oIB fun i j => .int (i + j)) := opx_ib (g := fun i j => .int (i + j)) (opr_ib (g := fun i j => .int (i + j)) fun i t k pins s σ H Q I q => add_int_bool ⟨.int (i + b2n k), H, I.tok _, ⟨_, rfl⟩, q⟩) fun _ _ _ _ => .int _
  refine ((((h1.or h2).or h3).or opx_add_str).or opx_add_tup |>.or opx_add_lst).imp ?_
  rintro x y s Q ⟨z, e, q⟩
  unfold addF at e
  split at e
  · cases e; exact .inl (.inl (.inl (.inl (.inl ⟨_, _, rfl, rfl, q⟩))))
  · cases e; exact .inl (.inl (.inl (.inl (.inr ⟨_, _, rfl, rfl, q⟩))))
  · cases e; exact .inl (.inl (.inl (.inr ⟨_, _, rfl, rfl, q⟩)))
  · split at e
    · cases e; exact .inl (.inl (.inr ⟨_, _, rfl, rfl, by assumption, q⟩))
    · cases e
  · split at e
    · cases e; exact .inl (.inr ⟨_, _, rfl, rfl, by assumption, q⟩)
    · cases e
  · split at e
    · rename_i h1 h2
      split at e
      · cases e; exact .inr ⟨_, _, h1, h2, by assumption, q⟩
      · cases e
    · cases e
def subF (_ : Sto) (x y : D) : Option D :=
  match x, y with
  | .int i, .int j => some (.int (i - j))
  | .bl k, .int j => some (.int (b2n k - j))
  | .int i, .bl k => some (.int (i - b2n k))
  | _, _ => none
theorem opx_sub {X : Cx} : OpX X (binaryOp .Sub) (oF subF) := by
  have h1 : OpX X (binaryOp .Sub) (oII fun i j => .int (i - j)) := opx_ii op_sub fun _ _ _ _ => .int _
  have h2 : OpX X (binaryOp .Sub) (oBI fun i j => .int (i - j)) := opx_bi (g := fun i j => .int (i - j)) (opr_bi (g := fun i j => .int (i - j)) fun k j u pins s σ H Q I q => PySem.IntBool.sub_bool_int ⟨.int (b2n k - j), H, I.tok _, ⟨_, rfl⟩, q⟩) fun _ _ _ _ => .int _
  have h3 : OpX X (binaryOp .Sub) (oIB fun i j => .int (i - j)) := opx_ib (g := fun i j => .int (i - j)) (opr_ib (g := fun i j => .int (i - j)) fun i t k pins s σ H Q I q => PySem.IntBool.sub_int_bool ⟨.int (i - b2n k), H, I.tok _, ⟨_, rfl⟩, q⟩) fun _ _ _ _ => .int _
  refine ((h1.or h2).or h3).imp ?_
  rintro x y s Q ⟨z, e, q⟩
  unfold subF at e
  split at e
  · cases e; exact .inl (.inl ⟨_, _, rfl, rfl, q⟩)
  · cases e; exact .inl (.inr ⟨_, _, rfl, rfl, q⟩)
  · cases e; exact .inr ⟨_, _, rfl, rfl, q⟩
  · cases e
/-- together below a hundred million bits -/
def MulOk (i j : Int) : Prop := IntMulOk i j
theorem op_mulM {X : Cx} : OpR X (binaryOp .Mult) (rI MulOk fun i j => .int (i * j)) := opI fun _ _ _ _ _ _ _ hc q => mul_int q hc
theorem opx_mul_ii {X : Cx} : OpX X (binaryOp .Mult) (oIIc MulOk fun i j => .int (i * j)) := opx_iic op_mulM fun _ _ _ _ => .int _
theorem opx_mod {X : Cx} : OpX X (binaryOp .Mod) (oIIc (fun _ j => 0 < j) fun i j => .int (i % j)) := opx_iic op_mod fun _ _ _ _ => .int _
def DivOk (_ j : Int) : Prop := 0 < j ∧ j.natAbs.log2 < 9000
theorem op_fdivO {X : Cx} : OpR X (binaryOp .FloorDiv) (rI DivOk fun i j => .int (i / j)) := op_fdivW
theorem opx_fdiv {X : Cx} : OpX X (binaryOp .FloorDiv) (oIIc DivOk fun i j => .int (i / j)) := opx_iic op_fdivO fun _ _ _ _ => .int _
def PowOk (i j : Int) : Prop := 2 ≤ j ∧ ((Builtin.Int.intBits i : Nat) : Int) * j ≤ 134217728
theorem op_powW {X : Cx} : OpR X (binaryOp .Pow) (rI PowOk fun i j => .int (i ^ j.toNat)) := opI fun i j t u s Q E hc q => by
  obtain ⟨h0, h1⟩ := hc
  have b0 : j ≥ 0 := by omega
  have b1 : ¬ (j == 0) = true := by
    intro z
    have := eq_of_beq z
    omega
  by_cases c2 : (i == 0 || i == 1) = true
  · refine AutoIntOps.pow_1 b0 b1 c2 ?_
    have e : i ^ j.toNat = i := by
      rcases Bool.or_eq_true_iff.mp c2 with z | z
      · have := eq_of_beq z
        subst this
        rw [Int.zero_pow]; omega
      · have := eq_of_beq z
        subst this
        exact Int.one_pow
    rw [e] at q
    exact q
  · by_cases c3 : (i == -1) = true
    · refine AutoIntOps.pow_2 b0 b1 c2 c3 ?_
      have := eq_of_beq c3
      subst this
      have e : (-1 : Int) ^ j.toNat = if (j % 2 == 0) = true then 1 else -1 := by
        obtain ⟨n, rfl⟩ : ∃ n : Nat, j = (n : Int) := ⟨j.toNat, by omega⟩
        rw [Int.toNat_natCast]
        have hp : ∀ n : Nat, (-1 : Int) ^ n = if n % 2 = 0 then 1 else -1 := by
          intro n
          induction n with
          | zero => rfl
          | succ n ih =>
            rw [Int.pow_succ, ih]
            by_cases hn : n % 2 = 0
            · rw [if_pos hn, if_neg (by omega)]; rfl
            · rw [if_neg hn, if_pos (by omega)]; rfl
        rw [hp]
        by_cases hn : n % 2 = 0
        · rw [if_pos hn, if_pos (by simp; omega)]
        · rw [if_neg hn, if_neg (by simp; omega)]
      rw [e] at q
      exact q
    · refine AutoIntOps.pow_4 b0 b1 c2 c3 (fun z => ?_) q
      unfold Builtin.Int.intTooBig at z
      have z3 := of_decide_eq_true z
      have e : bitsLine = 134217728 := by decide
      rw [e] at z3
      omega
theorem opx_pow {X : Cx} : OpX X (binaryOp .Pow) (oIIc PowOk fun i j => .int (i ^ j.toNat)) := opx_iic op_powW fun _ _ _ _ => .int _
theorem mono_iic {c : Int → Int → Prop} {g : Int → Int → D} : MonoO (oIIc c g) := fun _ _ _ _ _ f ⟨i, j, e1, e2, h, q⟩ => ⟨i, j, e1, e2, h, f _ _ q⟩
def negF (_ : Sto) (x : D) : Option D :=
  match x with
  | .int i => some (.int (-i))
  | _ => none
theorem pd_neg {X : DX} {a : Expr} {ta : ED} {pos : Pos} (ha : PD X a ta) : PD X (.UnaryOp .USub a pos) (dUn negF ta) := by
  refine ⟨pe_imp (pe_un un_neg ha.pe) fun σ H Q ⟨env, s, A, B, w, h⟩ => rdE_go ha.mono w h fun x s1 v H1 A1 q w1 e1 dv => ?_, mono_un ha.mono⟩
  obtain ⟨z, e, q⟩ := q
  unfold negF at e
  split at e
  · cases e
    cases dv
    exact ⟨_, rfl, q _ _ _ w1.rs e1 (.int _)⟩
  · cases e
def cmpF (p : Int → Int → Bool) (_ : Sto) (x y : D) : Option D :=
  match x, y with
  | .int i, .int j => some (.bl (p i j))
  | _, _ => none
theorem opx_cmp {X : Cx} {op : CmpOp} {p : Int → Int → Bool} (h : OpR X (compareOp op) (rI0 fun i j => .bl (p i j))) : OpX X (compareOp op) (oF (cmpF p)) := by
  have h1 : OpX X (compareOp op) (oII fun i j => .bl (p i j)) := opx_ii h fun _ _ _ _ => .bl _
  refine h1.imp ?_
  rintro x y s Q ⟨z, e, q⟩
  unfold cmpF at e
  split at e
  · cases e; exact ⟨_, _, rfl, rfl, q⟩
  · cases e
abbrev ltF := cmpF fun i j => decide (i < j)
abbrev leF := cmpF fun i j => decide (i ≤ j)
abbrev geF := cmpF fun i j => decide (j ≤ i)
theorem opx_lt {X : Cx} : OpX X (compareOp .Lt) (oF ltF) := opx_cmp op_lt
theorem opx_le {X : Cx} : OpX X (compareOp .LtE) (oF leF) := opx_cmp op_le
theorem opx_ge {X : Cx} : OpX X (compareOp .GtE) (oF geF) := opx_cmp op_ge
end
end Dl
set_option Elab.async false
set_option linter.all false
set_option autoImplicit false
set_option maxRecDepth 100000
set_option maxHeartbeats 4000000
namespace Dl
open PySem PySem.Spec PyProof.Rows L2
def allO (f : D → D → Option Bool) : List D → List D → Option Bool
  | x :: xs, y :: ys => match f x y, allO f xs ys with
    | some a, some b => some (a && b)
    | _, _ => none
  | _, _ => some true
/-- x == y, of nesting below n (none: not told here) -/
def eqN : Nat → D → D → Option Bool
  | 0 => fun _ _ => none
  | n + 1 => fun x y => match x, y with
    | .non, .non => some true
    | .bl a, .bl b => some (a == b)
    | .bl a, .int j => some (b2n a == j)
    | .int i, .bl b => some (i == b2n b)
    | .int i, .int j => some (i == j)
    | .str a, .str b => some (a == b)
    | .lst xs, .lst ys => if xs.length = ys.length then allO (eqN n) xs ys else some false
    | .tup xs, .tup ys => match allO (eqN n) xs ys with
      | some b => some (b && decide (xs.length = ys.length))
      | none => none
    | .non, .bl _ => some false
    | .non, .int _ => some false
    | .non, .str _ => some false
    | .non, .lst _ => some false
    | .non, .tup _ => some false
    | .bl _, .non => some false
    | .bl _, .str _ => some false
    | .bl _, .lst _ => some false
    | .bl _, .tup _ => some false
    | .int _, .non => some false
    | .int _, .str _ => some false
    | .int _, .lst _ => some false
    | .int _, .tup _ => some false
    | .str _, .non => some false
    | .str _, .bl _ => some false
    | .str _, .int _ => some false
    | .str _, .lst _ => some false
    | .str _, .tup _ => some false
    | .lst _, .non => some false
    | .lst _, .bl _ => some false
    | .lst _, .int _ => some false
    | .lst _, .str _ => some false
    | .lst _, .tup _ => some false
    | .tup _, .non => some false
    | .tup _, .bl _ => some false
    | .tup _, .int _ => some false
    | .tup _, .str _ => some false
    | .tup _, .lst _ => some false
    | _, _ => none
section
variable {X : Cx} {pins : List (Addr × Obj)} {σ : L2.St} {H F : Hp} {A0 : List Addr} {s : Shared}
/-- a list as the heap has it -/
theorem isList_of (I : Inv X pins σ H s) {a : Addr} {vs : List V} (h : SqL X.K H a vs) : ∃ its : List Value, Vals vs its ∧ s.heap.IsList a its.toArray := by
  obtain ⟨its, r, pl, _⟩ := I.list h
  exact ⟨its, r, pl.isList⟩
theorem isTup_of (I : Inv X pins σ H s) {a : Addr} {vs : List V} (h : SqT X.K H a vs) : ∃ its : List Value, Vals vs its ∧ s.heap.IsTuple a its.toArray := by
  obtain ⟨its, r, pl, _⟩ := I.tuple h
  exact ⟨its, r, pl⟩
theorem lt_excl (I : Inv X pins σ H s) {a : Addr} {vs ws : List V} (h : SqL X.K H a vs) (h' : SqT X.K H a ws) : False := by
  obtain ⟨_, _, l⟩ := isList_of I h
  obtain ⟨_, _, t⟩ := isTup_of I h'
  exact SeqAt.ne_of_list_tuple l t rfl
theorem klist_excl (I : Inv X pins σ H s) {a : Addr} {o : Obj} {u : HO} (h : X.K.lookup a = some o) (h' : H a = some u) : False := by
  have := (I.bs a o (I.mod.kin a o h)).2
  rw [h'] at this; cases this
mutual
/-- nothing of the store within -/
def pureD : D → Bool
  | .tup xs => pureL xs
  | .lst xs => pureL xs
  | .frl xs => pureL xs
  | .dk _ xs => pureL xs
  | .dt _ xs => pureL xs
  | .ref _ => false
  | .exc _ _ _ => false
  | _ => true
def pureL : List D → Bool
  | [] => true
  | x :: xs => pureD x && pureL xs
end
/-- what a value's datum may be at an address -/
inductive AtA (K : PySem.W.Frag) (F : Hp) (A : List Addr) (a : Addr) : D → Prop
  | tup {vs : List V} {ds : List D} : SqT K F a vs → DatL K F A ds vs → AtA K F A a (.tup ds)
  | lst {vs : List V} {ds : List D} : F a = some (.lst vs) → DatL K F A ds vs → AtA K F A a (.lst ds)
  | frl {vs : List V} {ds : List D} : SqF K F a vs → DatL K F A ds vs → AtA K F A a (.frl ds)
  | dk {kvs : List (Key × V)} {ds : List D} : F a = some (.dK kvs) → DatL K F A ds (kvs.map (·.2)) → AtA K F A a (.dk (kvs.map (·.1)) ds)
  | dt {kvs : List (List Key × V)} {ds : List D} : F a = some (.dT kvs) → DatL K F A ds (kvs.map (·.2)) → AtA K F A a (.dt (kvs.map (·.1)) ds)
theorem atA_of {K : PySem.W.Frag} {F : Hp} {A : List Addr} {a : Addr} {x : D} (h : Dat K F A x (.ref a)) (p : pureD x = true) : AtA K F A a x := by
  cases h with
  | tup h1 h2 => exact .tup h1.q h2
  | lst h1 h2 => exact .lst h1 h2
  | frl h1 h2 => exact .frl h1 h2
  | dk h1 h2 => exact .dk h1 h2
  | dt h1 h2 => exact .dt h1 h2
  | ref h1 => cases p
  | exc h1 h2 => cases p
/-- two readings of one address: one kind, the same items -/
theorem AtA.two (I : Inv X pins σ H s) (hF : Same F H) {a : Addr} {x y : D} (h : AtA X.K F A0 a x) (g : AtA X.K F A0 a y) :
    (∃ xs ys vs, x = .tup xs ∧ y = .tup ys ∧ DatL X.K F A0 xs vs ∧ DatL X.K F A0 ys vs) ∨ (∃ xs ys vs, x = .lst xs ∧ y = .lst ys ∧ DatL X.K F A0 xs vs ∧ DatL X.K F A0 ys vs) ∨
    (∃ xs ys vs, x = .frl xs ∧ y = .frl ys ∧ DatL X.K F A0 xs vs ∧ DatL X.K F A0 ys vs) ∨ (∃ ks xs ys vs, x = .dk ks xs ∧ y = .dk ks ys ∧ DatL X.K F A0 xs vs ∧ DatL X.K F A0 ys vs) ∨
    (∃ ks xs ys vs, x = .dt ks xs ∧ y = .dt ks ys ∧ DatL X.K F A0 xs vs ∧ DatL X.K F A0 ys vs) := by
  have tupx : ∀ {vs : List V} {u : HO}, SqT X.K F a vs → F a = some u → (∀ zs, u ≠ .tup zs) → (∀ o zs, u ≠ .frz o (.tup zs)) → False := fun {vs u} t e n1 n2 => by
    rcases t with (t | ⟨o, t⟩) | ⟨o, its, n, t, _⟩
    · rw [e] at t; cases t; exact n1 _ rfl
    · rw [e] at t; cases t; exact n2 _ _ rfl
    · exact klist_excl I t (hF _ _ e)
  have frlx : ∀ {vs : List V} {u : HO}, SqF X.K F a vs → F a = some u → (∀ o zs, u ≠ .frz o (.lst zs)) → False := fun {vs u} t e n2 => by
    rcases t with ⟨o, t⟩ | ⟨o, its, n, t, _⟩
    · rw [e] at t; cases t; exact n2 _ _ rfl
    · exact klist_excl I t (hF _ _ e)
  cases h with
  | tup h1 h2 =>
    cases g with
    | tup g1 g2 =>
      have := I.tuple_inj (sqT_same hF h1) (sqT_same hF g1)
      subst this
      exact .inl ⟨_, _, _, rfl, rfl, h2, g2⟩
    | lst g1 g2 => exact (tupx h1 g1 (fun _ z => nomatch z) (fun _ _ z => nomatch z)).elim
    | frl g1 g2 => exact (lt_excl I (hF.seq g1.seq) (sqT_same hF h1)).elim
    | dk g1 g2 => exact (tupx h1 g1 (fun _ z => nomatch z) (fun _ _ z => nomatch z)).elim
    | dt g1 g2 => exact (tupx h1 g1 (fun _ z => nomatch z) (fun _ _ z => nomatch z)).elim
  | lst h1 h2 =>
    cases g with
    | tup g1 g2 => exact (tupx g1 h1 (fun _ z => nomatch z) (fun _ _ z => nomatch z)).elim
    | lst g1 g2 => rw [h1] at g1; cases g1; exact .inr (.inl ⟨_, _, _, rfl, rfl, h2, g2⟩)
    | frl g1 g2 => exact (frlx g1 h1 (fun _ _ z => nomatch z)).elim
    | dk g1 g2 => rw [h1] at g1; cases g1
    | dt g1 g2 => rw [h1] at g1; cases g1
  | frl h1 h2 =>
    cases g with
    | tup g1 g2 => exact (lt_excl I (hF.seq h1.seq) (sqT_same hF g1)).elim
    | lst g1 g2 => exact (frlx h1 g1 (fun _ _ z => nomatch z)).elim
    | frl g1 g2 =>
      have := I.list_inj (hF.seq h1.seq) (hF.seq g1.seq)
      subst this
      exact .inr (.inr (.inl ⟨_, _, _, rfl, rfl, h2, g2⟩))
    | dk g1 g2 => exact (frlx h1 g1 (fun _ _ z => nomatch z)).elim
    | dt g1 g2 => exact (frlx h1 g1 (fun _ _ z => nomatch z)).elim
  | dk h1 h2 =>
    cases g with
    | tup g1 g2 => exact (tupx g1 h1 (fun _ z => nomatch z) (fun _ _ z => nomatch z)).elim
    | lst g1 g2 => rw [h1] at g1; cases g1
    | frl g1 g2 => exact (frlx g1 h1 (fun _ _ z => nomatch z)).elim
    | dk g1 g2 => rw [h1] at g1; cases g1; exact .inr (.inr (.inr (.inl ⟨_, _, _, _, rfl, rfl, h2, g2⟩)))
    | dt g1 g2 => rw [h1] at g1; cases g1
  | dt h1 h2 =>
    cases g with
    | tup g1 g2 => exact (tupx g1 h1 (fun _ z => nomatch z) (fun _ _ z => nomatch z)).elim
    | lst g1 g2 => rw [h1] at g1; cases g1
    | frl g1 g2 => exact (frlx g1 h1 (fun _ _ z => nomatch z)).elim
    | dk g1 g2 => rw [h1] at g1; cases g1
    | dt g1 g2 => rw [h1] at g1; cases g1; exact .inr (.inr (.inr (.inr ⟨_, _, _, _, rfl, rfl, h2, g2⟩)))
mutual
/-- one value, one datum -/
theorem Dat.inj (I : Inv X pins σ H s) (hF : Same F H) : ∀ (x y : D) (v : V), pureD x = true → pureD y = true → Dat X.K F A0 x v → Dat X.K F A0 y v → x = y
  | .non, _, _, _, p, h, g => by cases h; cases g; rfl
  | .bl _, _, _, _, p, h, g => by cases h; cases g; rfl
  | .int _, _, _, _, p, h, g => by cases h; cases g; rfl
  | .str _, _, _, _, p, h, g => by cases h; cases g; rfl
  | .ref _, _, _, p, _, h, g => by cases p
  | .exc _ _ _, _, _, p, _, h, g => by cases p
  | .tup xs, y, v, p, q, h, g => by
    obtain ⟨a, rfl⟩ : ∃ a, v = .ref a := by cases h; exact ⟨_, rfl⟩
    rcases AtA.two I hF (atA_of h p) (atA_of g q) with ⟨xs', ys, vs, e1, e2, d1, d2⟩ | ⟨xs', ys, vs, e1, e2, d1, d2⟩ | ⟨xs', ys, vs, e1, e2, d1, d2⟩ | ⟨ks, xs', ys, vs, e1, e2, d1, d2⟩ | ⟨ks, xs', ys, vs, e1, e2, d1, d2⟩ <;> cases e1
    subst e2
    rw [DatL.inj I hF xs ys vs p q d1 d2]
  | .lst xs, y, v, p, q, h, g => by
    obtain ⟨a, rfl⟩ : ∃ a, v = .ref a := by cases h; exact ⟨_, rfl⟩
    rcases AtA.two I hF (atA_of h p) (atA_of g q) with ⟨xs', ys, vs, e1, e2, d1, d2⟩ | ⟨xs', ys, vs, e1, e2, d1, d2⟩ | ⟨xs', ys, vs, e1, e2, d1, d2⟩ | ⟨ks, xs', ys, vs, e1, e2, d1, d2⟩ | ⟨ks, xs', ys, vs, e1, e2, d1, d2⟩ <;> cases e1
    subst e2
    rw [DatL.inj I hF xs ys vs p q d1 d2]
  | .frl xs, y, v, p, q, h, g => by
    obtain ⟨a, rfl⟩ : ∃ a, v = .ref a := by cases h; exact ⟨_, rfl⟩
    rcases AtA.two I hF (atA_of h p) (atA_of g q) with ⟨xs', ys, vs, e1, e2, d1, d2⟩ | ⟨xs', ys, vs, e1, e2, d1, d2⟩ | ⟨xs', ys, vs, e1, e2, d1, d2⟩ | ⟨ks, xs', ys, vs, e1, e2, d1, d2⟩ | ⟨ks, xs', ys, vs, e1, e2, d1, d2⟩ <;> cases e1
    subst e2
    rw [DatL.inj I hF xs ys vs p q d1 d2]
  | .dk ks0 xs, y, v, p, q, h, g => by
    obtain ⟨a, rfl⟩ : ∃ a, v = .ref a := by cases h; exact ⟨_, rfl⟩
    rcases AtA.two I hF (atA_of h p) (atA_of g q) with ⟨xs', ys, vs, e1, e2, d1, d2⟩ | ⟨xs', ys, vs, e1, e2, d1, d2⟩ | ⟨xs', ys, vs, e1, e2, d1, d2⟩ | ⟨ks, xs', ys, vs, e1, e2, d1, d2⟩ | ⟨ks, xs', ys, vs, e1, e2, d1, d2⟩ <;> cases e1
    subst e2
    rw [DatL.inj I hF xs ys vs p q d1 d2]
  | .dt ks0 xs, y, v, p, q, h, g => by
    obtain ⟨a, rfl⟩ : ∃ a, v = .ref a := by cases h; exact ⟨_, rfl⟩
    rcases AtA.two I hF (atA_of h p) (atA_of g q) with ⟨xs', ys, vs, e1, e2, d1, d2⟩ | ⟨xs', ys, vs, e1, e2, d1, d2⟩ | ⟨xs', ys, vs, e1, e2, d1, d2⟩ | ⟨ks, xs', ys, vs, e1, e2, d1, d2⟩ | ⟨ks, xs', ys, vs, e1, e2, d1, d2⟩ <;> cases e1
    subst e2
    rw [DatL.inj I hF xs ys vs p q d1 d2]
theorem DatL.inj (I : Inv X pins σ H s) (hF : Same F H) : ∀ (xs ys : List D) (vs : List V), pureL xs = true → pureL ys = true → DatL X.K F A0 xs vs → DatL X.K F A0 ys vs → xs = ys
  | [], _, _, _, _, h, g => by cases h; cases g; rfl
  | x :: xs, _, _, p, q, h, g => by
    cases h with
    | cons h1 h2 =>
      cases g with
      | cons g1 g2 =>
        have p' := Bool.and_eq_true_iff.mp p
        have q' := Bool.and_eq_true_iff.mp q
        rw [Dat.inj I hF x _ _ p'.1 q'.1 h1 g1, DatL.inj I hF xs _ _ p'.2 q'.2 h2 g2]
end
theorem allO_true {f : D → D → Option Bool} : ∀ {xs ys : List D} {vs : List V} {b : Bool}, (∀ x y v b, Dat X.K F A0 x v → Dat X.K F A0 y v → f x y = some b → b = true) → DatL X.K F A0 xs vs → DatL X.K F A0 ys vs → allO f xs ys = some b → b = true
  | [], _, _, _, _, h, g, e => by cases e; rfl
  | x :: xs, [], _, _, _, h, g, e => by cases e; rfl
  | x :: xs, y :: ys, _, b, hf, h, g, e => by
    cases h with
    | cons h1 h2 =>
      cases g with
      | cons g1 g2 =>
        unfold allO at e
        split at e
        · rename_i p q ep eq
          cases e
          rw [hf _ _ _ _ h1 g1 ep, allO_true hf h2 g2 eq]; rfl
        · cases e
/-- one value is equal to itself -/
theorem eqN_same (I : Inv X pins σ H s) (hF : Same F H) : ∀ (n : Nat) (x y : D) (v : V) (b : Bool), Dat X.K F A0 x v → Dat X.K F A0 y v → eqN n x y = some b → b = true
  | 0, _, _, _, _, _, _, e => by cases e
  | n + 1, x, y, v, b, h, g, e => by
    have ih := eqN_same I hF n
    cases h with
    | non => cases g; cases e; rfl
    | bl _ => cases g; cases e; simp
    | int _ => cases g; cases e; simp
    | str _ _ => cases g; cases e; simp
    | tup h1 h2 =>
      cases g with
      | tup g1 g2 =>
        have := I.tuple_inj (by first | exact .of (hF _ _ h1) | exact sqT_same hF (h1).q) (by first | exact .of (hF _ _ g1) | exact sqT_same hF (g1).q)
        subst this
        have hl : ∀ {xs ys : List D} {vs : List V}, DatL X.K F A0 xs vs → DatL X.K F A0 ys vs → xs.length = ys.length := fun a b => by rw [← a.length, ← b.length]
        unfold eqN at e
        simp only at e
        split at e
        · rename_i c ec
          cases e
          rw [allO_true ih h2 g2 ec, decide_eq_true (hl h2 g2)]; rfl
        · cases e
      | lst g1 g2 => exact (lt_excl I (by first | exact .of (hF _ _ g1) | exact sqT_same hF (g1).q) (by first | exact .of (hF _ _ h1) | exact sqT_same hF (h1).q)).elim
      | frl _ _ => cases e
      | dk _ _ => cases e
      | dt _ _ => cases e
      | ref _ => cases e
      | exc _ _ => cases e
    | lst h1 h2 =>
      cases g with
      | tup g1 g2 => exact (lt_excl I (by first | exact .of (hF _ _ h1) | exact sqT_same hF (h1).q) (by first | exact .of (hF _ _ g1) | exact sqT_same hF (g1).q)).elim
      | lst g1 g2 =>
        rw [h1] at g1; cases g1
        unfold eqN at e
        simp only at e
        split at e
        · exact allO_true ih h2 g2 e
        · rename_i hne
          exact absurd (by rw [← h2.length, ← g2.length]) hne
      | frl _ _ => cases e
      | dk _ _ => cases e
      | dt _ _ => cases e
      | ref _ => cases e
      | exc _ _ => cases e
    | frl _ _ => cases e
    | dk _ _ => cases e
    | dt _ _ => cases e
    | ref _ => cases e
    | exc _ _ => cases e
theorem allO_get {f : D → D → Option Bool} : ∀ {xs ys : List D} {b : Bool}, allO f xs ys = some b → ∀ (j : Nat) (x y : D), xs[j]? = some x → ys[j]? = some y → ∃ c, f x y = some c
  | [], _, _, _, j, x, y, h, _ => by simp at h
  | _ :: _, [], _, _, j, x, y, _, h => by simp at h
  | x0 :: xs, y0 :: ys, b, e, j, x, y, hx, hy => by
    unfold allO at e
    split at e
    · rename_i p q ep eq
      cases j with
      | zero => simp at hx hy; subst hx hy; exact ⟨_, ep⟩
      | succ j => exact allO_get eq j x y (by simpa using hx) (by simpa using hy)
    · cases e
/-- the pairs' answers, place by place -/
def pairB (f : D → D → Option Bool) (xs ys : List D) (j : Nat) : Bool := match xs[j]?, ys[j]? with
  | some x, some y => (f x y).getD true
  | _, _ => true
theorem allO_range {f : D → D → Option Bool} : ∀ {xs ys : List D} {b : Bool}, allO f xs ys = some b → (List.range (min xs.length ys.length)).all (pairB f xs ys) = b
  | [], _, _, e => by cases e; simp
  | _ :: _, [], _, e => by cases e; simp
  | x0 :: xs, y0 :: ys, b, e => by
    unfold allO at e
    split at e
    · rename_i p q ep eq
      cases e
      have ih := allO_range eq
      rw [show min (x0 :: xs).length (y0 :: ys).length = min xs.length ys.length + 1 by simp only [List.length_cons]; omega, List.range_succ_eq_map, List.all_cons, List.all_map]
      have h0 : pairB f (x0 :: xs) (y0 :: ys) 0 = p := by unfold pairB; simp [ep]
      have h1 : (pairB f (x0 :: xs) (y0 :: ys) ∘ Nat.succ) = pairB f xs ys := by funext j; unfold pairB; simp
      rw [h0, h1, ih]
    · cases e
theorem pairB_some {f : D → D → Option Bool} {xs ys : List D} {j : Nat} {x y : D} {c : Bool} (hx : xs[j]? = some x) (hy : ys[j]? = some y) (e : f x y = some c) : pairB f xs ys j = c := by
  unfold pairB; rw [hx, hy]; show (f x y).getD true = c; rw [e]; rfl
theorem vals_at {vs : List V} {its : List Value} (r : Vals vs its) {j : Nat} (h : j < its.toArray.size) : ∃ v, vs[j]? = some v ∧ RelV v its.toArray[j] := by
  have hl : j < its.length := by simpa using h
  have hv : j < vs.length := by rw [r.length]; exact hl
  obtain ⟨u, h1, h2⟩ := r.get (List.getElem?_eq_getElem hv)
  rw [List.getElem?_eq_getElem hl] at h1
  have e : its[j] = u := Option.some.inj h1
  exact ⟨_, List.getElem?_eq_getElem hv, by simpa [e] using h2⟩
theorem sz_of {K : PySem.W.Frag} {xs : List D} {vs : List V} {us : List Value} (d : DatL K F A0 xs vs) (r : Vals vs us) : us.toArray.size = xs.length := by rw [List.size_toArray, ← r.length, d.length]
/-- items of two lists: place by place -/
theorem items_eq {f : D → D → Option Bool} {A : Around} (ih : ∀ x y v w u t b, Dat X.K F A0 x v → Dat X.K F A0 y w → RelV v u → RelV w t → f x y = some b → SeqAt.EqAt A s u t b) {xs ys : List D} {vs ws : List V} {us ts : List Value} {b : Bool} (dx : DatL X.K F A0 xs vs) (dy : DatL X.K F A0 ys ws) (ru : Vals vs us) (rt : Vals ws ts)
    (e : allO f xs ys = some b) : ∀ j (h1 : j < us.toArray.size) (h2 : j < ts.toArray.size), SeqAt.EqAt A s us.toArray[j] ts.toArray[j] (pairB f xs ys j) := by
  intro j h1 h2
  obtain ⟨v, hv, rv⟩ := vals_at ru h1
  obtain ⟨w, hw, rw'⟩ := vals_at rt h2
  obtain ⟨x, hx, dx'⟩ := dx.get' hv
  obtain ⟨y, hy, dy'⟩ := dy.get' hw
  obtain ⟨c, ec⟩ := allO_get e j x y hx hy
  rw [pairB_some hx hy ec]
  exact ih _ _ _ _ _ _ _ dx' dy' rv rw' ec
/-- x == y within a list, a tuple -/
theorem eqAtD (I : Inv X pins σ H s) (hF : Same F H) : ∀ (n : Nat) (A : Around), A.units + n < cLine → ∀ (x y : D) (v w : V) (u t : Value) (b : Bool), Dat X.K F A0 x v → Dat X.K F A0 y w → RelV v u → RelV w t → eqN n x y = some b → SeqAt.EqAt A s u t b
  | 0, _, _, _, _, _, _, _, _, _, _, _, _, _, e => by cases e
  | n + 1, A, hA, x, y, v, w, u, t, b, dx, dy, rv, rw', e => by
    have hu : A.units < cLine := by omega
    have ih := eqAtD I hF n A.in1 (by show A.units + 1 + n < cLine; omega)
    cases dx with
    | non =>
      cases rv
      cases dy with
      | non => cases rw'; cases e; exact .same _
      | bl _ => cases rw'; cases e; exact .none_bool _
      | int _ => obtain ⟨_, rfl⟩ := rw'; cases e; exact .none_int _ _
      | str _ _ => obtain ⟨_, rfl⟩ := rw'; cases e; exact .none_str _ _
      | tup h1 _ => cases rw'; cases e; obtain ⟨_, _, l⟩ := isTup_of I (by first | exact .of (hF _ _ h1) | exact sqT_same hF (h1).q); exact .none_tuple l hu
      | lst h1 _ => cases rw'; cases e; obtain ⟨_, _, l⟩ := isList_of I (by first | exact .of (hF _ _ h1) | exact sqT_same hF (h1).q); exact .none_list l hu
      | frl _ _ => cases e
      | dk _ _ => cases e
      | dt _ _ => cases e
      | ref _ => cases e
      | exc _ _ => cases e
    | bl _ =>
      cases rv
      cases dy with
      | non => cases rw'; cases e; exact .bool_none _
      | bl _ => cases rw'; cases e; exact .bool_bool _ _
      | int _ => obtain ⟨_, rfl⟩ := rw'; cases e; exact .bool_int _ _ _
      | str _ _ => obtain ⟨_, rfl⟩ := rw'; cases e; exact .bool_str _ _ _
      | tup h1 _ => cases rw'; cases e; obtain ⟨_, _, l⟩ := isTup_of I (by first | exact .of (hF _ _ h1) | exact sqT_same hF (h1).q); exact .bool_tuple _ l hu
      | lst h1 _ => cases rw'; cases e; obtain ⟨_, _, l⟩ := isList_of I (by first | exact .of (hF _ _ h1) | exact sqT_same hF (h1).q); exact .bool_list _ l hu
      | frl _ _ => cases e
      | dk _ _ => cases e
      | dt _ _ => cases e
      | ref _ => cases e
      | exc _ _ => cases e
    | int _ =>
      obtain ⟨_, rfl⟩ := rv
      cases dy with
      | non => cases rw'; cases e; exact .int_none _ _
      | bl _ => cases rw'; cases e; exact .int_bool _ _ _
      | int _ => obtain ⟨_, rfl⟩ := rw'; cases e; exact .int_int _ _ _ _
      | str _ _ => obtain ⟨_, rfl⟩ := rw'; cases e; exact .int_str _ _ _ _
      | tup h1 _ => cases rw'; cases e; obtain ⟨_, _, l⟩ := isTup_of I (by first | exact .of (hF _ _ h1) | exact sqT_same hF (h1).q); exact .int_tuple _ _ l hu
      | lst h1 _ => cases rw'; cases e; obtain ⟨_, _, l⟩ := isList_of I (by first | exact .of (hF _ _ h1) | exact sqT_same hF (h1).q); exact .int_list _ _ l hu
      | frl _ _ => cases e
      | dk _ _ => cases e
      | dt _ _ => cases e
      | ref _ => cases e
      | exc _ _ => cases e
    | str _ _ =>
      obtain ⟨_, rfl⟩ := rv
      cases dy with
      | non => cases rw'; cases e; exact .str_none _ _
      | bl _ => cases rw'; cases e; exact .str_bool _ _ _
      | int _ => obtain ⟨_, rfl⟩ := rw'; cases e; exact .str_int _ _ _ _
      | str _ _ => obtain ⟨_, rfl⟩ := rw'; cases e; exact .str_str _ _ _ _
      | tup h1 _ => cases rw'; cases e; obtain ⟨_, _, l⟩ := isTup_of I (by first | exact .of (hF _ _ h1) | exact sqT_same hF (h1).q); exact .str_tuple _ _ l hu
      | lst h1 _ => cases rw'; cases e; obtain ⟨_, _, l⟩ := isList_of I (by first | exact .of (hF _ _ h1) | exact sqT_same hF (h1).q); exact .str_list _ _ l hu
      | frl _ _ => cases e
      | dk _ _ => cases e
      | dt _ _ => cases e
      | ref _ => cases e
      | exc _ _ => cases e
    | tup h1 h2 =>
      cases rv
      obtain ⟨us, ru, l⟩ := isTup_of I (by first | exact .of (hF _ _ h1) | exact sqT_same hF (h1).q)
      cases dy with
      | non => cases rw'; cases e; exact .tuple_none l hu
      | bl _ => cases rw'; cases e; exact .tuple_bool _ l hu
      | int _ => obtain ⟨_, rfl⟩ := rw'; cases e; exact .tuple_int _ _ l hu
      | str _ _ => obtain ⟨_, rfl⟩ := rw'; cases e; exact .tuple_str _ _ l hu
      | tup g1 g2 =>
        cases rw'
        obtain ⟨ts, rt, l2⟩ := isTup_of I (by first | exact .of (hF _ _ g1) | exact sqT_same hF (g1).q)
        rename_i a _ _ a' _ _
        by_cases ea : a = a'
        · subst ea
          have hb := eqN_same I hF (n + 1) _ _ _ _ (.tup h1 h2) (.tup g1 g2) e
          rw [hb]; exact .same _
        · refine .of_refs ea ?_
          unfold eqN at e
          simp only at e
          split at e
          · rename_i c ec
            have hr := SeqAt.RcAt.tuples l l2 hu (items_eq ih h2 g2 ru rt ec)
            have el := sz_of h2 ru
            have el2 := sz_of g2 rt
            rw [el, el2, allO_range ec] at hr
            cases e
            have e3 : ∀ (p q : Nat), (p == q) = decide (p = q) := fun p q => by by_cases z : p = q <;> simp [z]
            rw [e3] at hr
            exact hr
          · cases e
      | lst g1 _ => cases rw'; cases e; obtain ⟨_, _, l2⟩ := isList_of I (by first | exact .of (hF _ _ g1) | exact sqT_same hF (g1).q); exact .tuple_list l l2 hu
      | frl _ _ => cases e
      | dk _ _ => cases e
      | dt _ _ => cases e
      | ref _ => cases e
      | exc _ _ => cases e
    | lst h1 h2 =>
      cases rv
      obtain ⟨us, ru, l⟩ := isList_of I (by first | exact .of (hF _ _ h1) | exact sqT_same hF (h1).q)
      cases dy with
      | non => cases rw'; cases e; exact .list_none l hu
      | bl _ => cases rw'; cases e; exact .list_bool _ l hu
      | int _ => obtain ⟨_, rfl⟩ := rw'; cases e; exact .list_int _ _ l hu
      | str _ _ => obtain ⟨_, rfl⟩ := rw'; cases e; exact .list_str _ _ l hu
      | tup g1 _ => cases rw'; cases e; obtain ⟨_, _, l2⟩ := isTup_of I (by first | exact .of (hF _ _ g1) | exact sqT_same hF (g1).q); exact .list_tuple l l2 hu
      | lst g1 g2 =>
        cases rw'
        obtain ⟨ts, rt, l2⟩ := isList_of I (by first | exact .of (hF _ _ g1) | exact sqT_same hF (g1).q)
        rename_i a _ _ a' _ _
        by_cases ea : a = a'
        · subst ea
          have hb := eqN_same I hF (n + 1) _ _ _ _ (.lst h1 h2) (.lst g1 g2) e
          rw [hb]; exact .same _
        · refine .of_refs ea ?_
          have el := sz_of h2 ru
          have el2 := sz_of g2 rt
          unfold eqN at e
          simp only at e
          split at e
          · rename_i hl
            have hr := SeqAt.RcAt.lists l l2 (by rw [el, el2, hl]) hu (items_eq ih h2 g2 ru rt e)
            have := allO_range e
            rw [hl, Nat.min_self] at this
            rw [el, hl, this] at hr
            exact hr
          · rename_i hl
            cases e
            exact SeqAt.RcAt.lists_lengths l l2 (by rw [el, el2]; simpa using hl) hu
      | frl _ _ => cases e
      | dk _ _ => cases e
      | dt _ _ => cases e
      | ref _ => cases e
      | exc _ _ => cases e
    | frl _ _ => cases e
    | dk _ _ => cases e
    | dt _ _ => cases e
    | ref _ => cases e
    | exc _ _ => cases e
/-- how an operand of == stands: a list also one of the store -/
inductive Op (K : PySem.W.Frag) (F H : Hp) (A : List Addr) : D → V → Prop
  | dat {x : D} {v : V} : Dat K F A x v → Op K F H A x v
  | lst {a : Addr} {vs : List V} {ds : List D} : H a = some (.lst vs) → DatL K F A ds vs → Op K F H A (.lst ds) (.ref a)
theorem Op.two {K : PySem.W.Frag} {A : List Addr} {x : D} {v : V} (hF : Same F H) (h : Op K F H A x v) : (∃ ds a vs, x = .lst ds ∧ v = .ref a ∧ H a = some (.lst vs) ∧ DatL K F A ds vs) ∨ ((∀ ds, x ≠ .lst ds) ∧ Dat K F A x v) := by
  cases h with
  | lst h1 h2 => exact .inl ⟨_, _, _, rfl, rfl, h1, h2⟩
  | dat h =>
    cases h with
    | exc h1 h2 => exact .inr ⟨(fun _ z => nomatch z), .exc h1 h2⟩
    | lst h1 h2 => exact .inl ⟨_, _, _, rfl, rfl, hF _ _ h1, h2⟩
    | non => exact .inr ⟨(fun _ z => nomatch z), .non⟩
    | bl _ => exact .inr ⟨(fun _ z => nomatch z), .bl _⟩
    | int _ => exact .inr ⟨(fun _ z => nomatch z), .int _⟩
    | str _ h => exact .inr ⟨(fun _ z => nomatch z), .str _ h⟩
    | tup h1 h2 => exact .inr ⟨(fun _ z => nomatch z), .tup h1 h2⟩
    | frl h1 h2 => exact .inr ⟨(fun _ z => nomatch z), .frl h1 h2⟩
    | dk h1 h2 => exact .inr ⟨(fun _ z => nomatch z), .dk h1 h2⟩
    | dt h1 h2 => exact .inr ⟨(fun _ z => nomatch z), .dt h1 h2⟩
    | ref h1 => exact .inr ⟨(fun _ z => nomatch z), .ref h1⟩
/-- both answers of a comparison -/
def Rc2 (A : Around) (s : Shared) (u t : Value) (b : Bool) : Prop := SeqAt.RcAt A s u t b ∧ SeqAt.RcNeAt A s u t (!b)
/-- x == y, x != y -/
theorem rcD (I : Inv X pins σ H s) (hF : Same F H) (n : Nat) (A : Around) (hA : A.units + (n + 1) < cLine) (x y : D) (v w : V) (u t : Value) (b : Bool) (ox : Op X.K F H A0 x v) (oy : Op X.K F H A0 y w) (rv : RelV v u) (rw' : RelV w t) (e : eqN (n + 1) x y = some b) : Rc2 A s u t b := by
  have hu : A.units < cLine := by omega
  have ih := eqAtD I hF (A0 := A0) n A.in1 (by show A.units + 1 + n < cLine; omega)
  rcases ox.two hF with ⟨xs, a, vs, rfl, rfl, h1, h2⟩ | ⟨nx, dx⟩
  · cases rv
    obtain ⟨us, ru, l⟩ := isList_of I (.of h1)
    rcases oy.two hF with ⟨ys, a', ws, rfl, rfl, g1, g2⟩ | ⟨ny, dy⟩
    · cases rw'
      obtain ⟨ts, rt, l2⟩ := isList_of I (.of g1)
      have el := sz_of h2 ru
      have el2 := sz_of g2 rt
      unfold eqN at e
      simp only at e
      split at e
      · rename_i hl
        have it := items_eq ih h2 g2 ru rt e
        have hr := SeqAt.RcAt.lists l l2 (by rw [el, el2, hl]) hu it
        have hr2 := SeqAt.RcNeAt.lists l l2 (by rw [el, el2, hl]) hu it
        have := allO_range e
        rw [hl, Nat.min_self] at this
        rw [el, hl, this] at hr hr2
        exact ⟨hr, hr2⟩
      · rename_i hl
        cases e
        exact ⟨SeqAt.RcAt.lists_lengths l l2 (by rw [el, el2]; simpa using hl) hu, SeqAt.RcNeAt.lists_lengths l l2 (by rw [el, el2]; simpa using hl) hu⟩
    · cases dy with
      | non => cases rw'; cases e; exact ⟨.list_none l hu, .list_none l hu⟩
      | bl _ => cases rw'; cases e; exact ⟨.list_bool _ l hu, .list_bool _ l hu⟩
      | int _ => obtain ⟨_, rfl⟩ := rw'; cases e; exact ⟨.list_int _ _ l hu, .list_int _ _ l hu⟩
      | str _ _ => obtain ⟨_, rfl⟩ := rw'; cases e; exact ⟨.list_str _ _ l hu, .list_str _ _ l hu⟩
      | tup g1 _ => cases rw'; cases e; obtain ⟨_, _, l2⟩ := isTup_of I (by first | exact .of (hF _ _ g1) | exact sqT_same hF (g1).q); exact ⟨.list_tuple l l2 hu, .list_tuple l l2 hu⟩
      | lst _ _ => exact absurd rfl (ny _)
      | frl _ _ => cases e
      | dk _ _ => cases e
      | dt _ _ => cases e
      | ref _ => cases e
      | exc _ _ => cases e
  · rcases oy.two hF with ⟨ys, a', ws, rfl, rfl, g1, g2⟩ | ⟨ny, dy⟩
    · cases rw'
      obtain ⟨ts, rt, l2⟩ := isList_of I (.of g1)
      cases dx with
      | non => cases rv; cases e; exact ⟨.none_list l2 hu, .none_list l2 hu⟩
      | bl _ => cases rv; cases e; exact ⟨.bool_list _ l2 hu, .bool_list _ l2 hu⟩
      | int _ => obtain ⟨_, rfl⟩ := rv; cases e; exact ⟨.int_list _ _ l2 hu, .int_list _ _ l2 hu⟩
      | str _ _ => obtain ⟨_, rfl⟩ := rv; cases e; exact ⟨.str_list _ _ l2 hu, .str_list _ _ l2 hu⟩
      | tup h1 _ => cases rv; cases e; obtain ⟨_, _, l⟩ := isTup_of I (by first | exact .of (hF _ _ h1) | exact sqT_same hF (h1).q); exact ⟨.tuple_list l l2 hu, .tuple_list l l2 hu⟩
      | lst _ _ => exact absurd rfl (nx _)
      | frl _ _ => cases e
      | dk _ _ => cases e
      | dt _ _ => cases e
      | ref _ => cases e
      | exc _ _ => cases e
    · cases dx with
      | non =>
        cases rv
        cases dy with
        | non => cases rw'; cases e; exact ⟨.none_none, .none_none⟩
        | bl _ => cases rw'; cases e; exact ⟨.none_bool _, .none_bool _⟩
        | int _ => obtain ⟨_, rfl⟩ := rw'; cases e; exact ⟨.none_int _ _, .none_int _ _⟩
        | str _ _ => obtain ⟨_, rfl⟩ := rw'; cases e; exact ⟨.none_str _ _, .none_str _ _⟩
        | tup h1 _ => cases rw'; cases e; obtain ⟨_, _, l⟩ := isTup_of I (by first | exact .of (hF _ _ h1) | exact sqT_same hF (h1).q); exact ⟨.none_tuple l hu, .none_tuple l hu⟩
        | lst _ _ => exact absurd rfl (ny _)
        | frl _ _ => cases e
        | dk _ _ => cases e
        | dt _ _ => cases e
        | ref _ => cases e
        | exc _ _ => cases e
      | bl _ =>
        cases rv
        cases dy with
        | non => cases rw'; cases e; exact ⟨.bool_none _, .bool_none _⟩
        | bl _ => cases rw'; cases e; exact ⟨.bool_bool _ _, .bool_bool _ _⟩
        | int _ => obtain ⟨_, rfl⟩ := rw'; cases e; exact ⟨.bool_int _ _ _, .bool_int _ _ _⟩
        | str _ _ => obtain ⟨_, rfl⟩ := rw'; cases e; exact ⟨.bool_str _ _ _, .bool_str _ _ _⟩
        | tup h1 _ => cases rw'; cases e; obtain ⟨_, _, l⟩ := isTup_of I (by first | exact .of (hF _ _ h1) | exact sqT_same hF (h1).q); exact ⟨.bool_tuple _ l hu, .bool_tuple _ l hu⟩
        | lst _ _ => exact absurd rfl (ny _)
        | frl _ _ => cases e
        | dk _ _ => cases e
        | dt _ _ => cases e
        | ref _ => cases e
        | exc _ _ => cases e
      | int _ =>
        obtain ⟨_, rfl⟩ := rv
        cases dy with
        | non => cases rw'; cases e; exact ⟨.int_none _ _, .int_none _ _⟩
        | bl _ => cases rw'; cases e; exact ⟨.int_bool _ _ _, .int_bool _ _ _⟩
        | int _ => obtain ⟨_, rfl⟩ := rw'; cases e; exact ⟨.int_int _ _ _ _, .int_int _ _ _ _⟩
        | str _ _ => obtain ⟨_, rfl⟩ := rw'; cases e; exact ⟨.int_str _ _ _ _, .int_str _ _ _ _⟩
        | tup h1 _ => cases rw'; cases e; obtain ⟨_, _, l⟩ := isTup_of I (by first | exact .of (hF _ _ h1) | exact sqT_same hF (h1).q); exact ⟨.int_tuple _ _ l hu, .int_tuple _ _ l hu⟩
        | lst _ _ => exact absurd rfl (ny _)
        | frl _ _ => cases e
        | dk _ _ => cases e
        | dt _ _ => cases e
        | ref _ => cases e
        | exc _ _ => cases e
      | str _ _ =>
        obtain ⟨_, rfl⟩ := rv
        cases dy with
        | non => cases rw'; cases e; exact ⟨.str_none _ _, .str_none _ _⟩
        | bl _ => cases rw'; cases e; exact ⟨.str_bool _ _ _, .str_bool _ _ _⟩
        | int _ => obtain ⟨_, rfl⟩ := rw'; cases e; exact ⟨.str_int _ _ _ _, .str_int _ _ _ _⟩
        | str _ _ => obtain ⟨_, rfl⟩ := rw'; cases e; exact ⟨.str_str _ _ _ _, .str_str _ _ _ _⟩
        | tup h1 _ => cases rw'; cases e; obtain ⟨_, _, l⟩ := isTup_of I (by first | exact .of (hF _ _ h1) | exact sqT_same hF (h1).q); exact ⟨.str_tuple _ _ l hu, .str_tuple _ _ l hu⟩
        | lst _ _ => exact absurd rfl (ny _)
        | frl _ _ => cases e
        | dk _ _ => cases e
        | dt _ _ => cases e
        | ref _ => cases e
        | exc _ _ => cases e
      | tup h1 h2 =>
        cases rv
        obtain ⟨us, ru, l⟩ := isTup_of I (by first | exact .of (hF _ _ h1) | exact sqT_same hF (h1).q)
        cases dy with
        | non => cases rw'; cases e; exact ⟨.tuple_none l hu, .tuple_none l hu⟩
        | bl _ => cases rw'; cases e; exact ⟨.tuple_bool _ l hu, .tuple_bool _ l hu⟩
        | int _ => obtain ⟨_, rfl⟩ := rw'; cases e; exact ⟨.tuple_int _ _ l hu, .tuple_int _ _ l hu⟩
        | str _ _ => obtain ⟨_, rfl⟩ := rw'; cases e; exact ⟨.tuple_str _ _ l hu, .tuple_str _ _ l hu⟩
        | tup g1 g2 =>
          cases rw'
          obtain ⟨ts, rt, l2⟩ := isTup_of I (by first | exact .of (hF _ _ g1) | exact sqT_same hF (g1).q)
          unfold eqN at e
          simp only at e
          split at e
          · rename_i c ec
            have it := items_eq ih h2 g2 ru rt ec
            have hr := SeqAt.RcAt.tuples l l2 hu it
            have hr2 := SeqAt.RcNeAt.tuples l l2 hu it
            have el := sz_of h2 ru
            have el2 := sz_of g2 rt
            rw [el, el2, allO_range ec] at hr hr2
            cases e
            have e3 : ∀ (p q : Nat), (p == q) = decide (p = q) := fun p q => by by_cases z : p = q <;> simp [z]
            rw [e3] at hr hr2
            exact ⟨hr, hr2⟩
          · cases e
        | lst _ _ => exact absurd rfl (ny _)
        | frl _ _ => cases e
        | dk _ _ => cases e
        | dt _ _ => cases e
        | ref _ => cases e
        | exc _ _ => cases e
      | lst _ _ => exact absurd rfl (nx _)
      | frl _ _ => cases e
      | dk _ _ => cases e
      | dt _ _ => cases e
      | ref _ => cases e
      | exc _ _ => cases e
end
end Dl
set_option Elab.async false
set_option linter.all false
set_option autoImplicit false
set_option maxRecDepth 100000
set_option maxHeartbeats 4000000
namespace Dl
open PySem PySem.Spec PyProof.Rows L2
def drf (s : Sto) : D → D
  | .ref l => match s[l]? with
    | some (some (.lst ds)) => .lst ds
    | _ => .ref l
  | x => x
theorem drf_ref {s : Sto} {l : Nat} {ds : List D} (h : s[l]? = some (some (.lst ds))) : drf s (.ref l) = .lst ds := by
  show (match s[l]? with | some (some (.lst ds)) => D.lst ds | _ => .ref l) = .lst ds
  rw [h]
theorem op_of {K : PySem.W.Frag} {B : List Addr} {H : Hp} {A : List Addr} {s : Sto} {x : D} {v : V} (R : RepS K B H A s) (dv : Dat K (Fz B H A s) A x v) : Op K (Fz B H A s) H A (drf s x) v := by
  by_cases e : ∃ l ds, x = .ref l ∧ s[l]? = some (some (.lst ds))
  · obtain ⟨l, ds, rfl, h⟩ := e
    rw [drf_ref h]
    obtain ⟨a, vs, rfl, h1, h2⟩ := of_seqM R dv (seqM_ref h)
    exact .lst h1 h2
  · have : drf s x = x := by
      cases x with
      | ref l =>
        show (match s[l]? with | some (some (.lst ds)) => D.lst ds | _ => .ref l) = .ref l
        split
        · rename_i ds h; exact absurd ⟨l, ds, rfl, h⟩ e
        · rfl
      | _ => rfl
    rw [this]
    exact .dat dv
section
variable {X : Cx}
def rEqN (K : PySem.W.Frag) (g : Bool → Bool) : R2 := fun x y H Q => ∃ (F : Hp) (A0 : List Addr) (dx dy : D) (b : Bool), Same F H ∧ Op K F H A0 dx x ∧ Op K F H A0 dy y ∧ eqN 60 dx dy = some b ∧ Q (.bl (g b)) H
theorem op_eqN (hu : X.A.units + 64 < cLine) : OpR X (compareOp .Eq) (rEqN X.K id) := by
  intro pins s σ H x y v u Q I rx ry h
  obtain ⟨F, A0, dx, dy, b, hF, ox, oy, e, q⟩ := h
  exact (rcD I hF 59 X.A (by omega) dx dy x y v u b ox oy rx ry e).1 _ _ _ _ ⟨.bl b, H, I, rfl, q⟩
theorem op_neN (hu : X.A.units + 64 < cLine) : OpR X (compareOp .NotEq) (rEqN X.K Bool.not) := by
  intro pins s σ H x y v u Q I rx ry h
  obtain ⟨F, A0, dx, dy, b, hF, ox, oy, e, q⟩ := h
  exact (rcD I hF 59 X.A (by omega) dx dy x y v u b ox oy rx ry e).2 _ _ _ _ ⟨.bl (!b), H, I, rfl, q⟩
def eqF (s : Sto) (x y : D) : Option D := (eqN 60 (drf s x) (drf s y)).map fun b => .bl b
def neF (s : Sto) (x y : D) : Option D := (eqN 60 (drf s x) (drf s y)).map fun b => .bl (!b)
theorem opx_eq (hu : X.A.units + 64 < cLine) : OpX X (compareOp .Eq) (oF eqF) := opx_of (op_eqN hu) fun x y s v w H A B Q R dv dw ⟨z, e, q⟩ => by
  unfold eqF at e
  cases h : eqN 60 (drf s x) (drf s y) with
  | none => rw [h] at e; cases e
  | some b =>
    rw [h] at e
    cases e
    exact ⟨_, _, _, _, b, fz_same, op_of R dv, op_of R dw, h, q.here R (.bl _)⟩
theorem opx_ne (hu : X.A.units + 64 < cLine) : OpX X (compareOp .NotEq) (oF neF) := opx_of (op_neN hu) fun x y s v w H A B Q R dv dw ⟨z, e, q⟩ => by
  unfold neF at e
  cases h : eqN 60 (drf s x) (drf s y) with
  | none => rw [h] at e; cases e
  | some b =>
    rw [h] at e
    cases e
    exact ⟨_, _, _, _, b, fz_same, op_of R dv, op_of R dw, h, q.here R (.bl _)⟩
theorem any_e {I : Prop} {ds : List D} {its : List Value} {e : Value → Bool} {f : D → Bool} (h1 : ∀ w ∈ its, e w = true → ∃ d ∈ ds, f d = true) (h2 : ∀ d ∈ ds, f d = true → ∃ w ∈ its, e w = true) : its.any e = ds.any f := by
  cases h : ds.any f with
  | true =>
    obtain ⟨d, hd, fd⟩ := List.any_eq_true.mp h
    obtain ⟨w, hw, ew⟩ := h2 d hd fd
    exact List.any_eq_true.mpr ⟨w, hw, ew⟩
  | false =>
    cases g : its.any e with
    | false => rfl
    | true =>
      obtain ⟨w, hw, ew⟩ := List.any_eq_true.mp g
      obtain ⟨d, hd, fd⟩ := h1 w hw ew
      have : ds.any f = true := List.any_eq_true.mpr ⟨d, hd, fd⟩
      rw [h] at this; cases this
theorem pureL_mem : ∀ {ds : List D} {d : D}, pureL ds = true → d ∈ ds → pureD d = true
  | x :: xs, d, p, h => by
    have p' := Bool.and_eq_true_iff.mp p
    rcases List.mem_cons.mp h with rfl | h
    · exact p'.1
    · exact pureL_mem p'.2 h
def inAny (ds : List D) (x : D) : Bool := ds.any fun d => (eqN 59 d x).getD false
def InOk (ds : List D) (x : D) : Prop := pureL ds = true ∧ ∀ d ∈ ds, ∃ b, eqN 59 d x = some b
def rInN (K : PySem.W.Frag) (g : Bool → Bool) : R2 := fun x y H Q => ∃ (F : Hp) (A0 : List Addr) (p : Addr) (vs : List V) (ds : List D) (dx : D), Same F H ∧ y = .ref p ∧ (SqL K H p vs ∨ SqT K H p vs) ∧ DatL K F A0 ds vs ∧ Dat K F A0 dx x ∧ InOk ds dx ∧ Q (.bl (g (inAny ds dx))) H
open Classical in
theorem inN_core {pins : List (Addr × Obj)} {s : Shared} {σ : L2.St} {H : Hp} (hu : X.A.units + 64 < cLine) (I : Inv X pins σ H s) {x : V} {v : Value} {F : Hp} {A0 : List Addr} {vs : List V} {ds : List D} {dx : D} {its : List Value} (hF : Same F H) (rx : RelV x v) (r : Vals vs its) (hd : DatL X.K F A0 ds vs) (hx : Dat X.K F A0 dx x) (ok : InOk ds dx) :
    ∃ e : Value → Bool, (∀ y, y ∈ its.toArray → SeqAt.EqAt X.A.in1 s y v (e y)) ∧ its.toArray.any e = inAny ds dx := by
  have key : ∀ i (u : Value), its[i]? = some u → ∃ d z, ds[i]? = some d ∧ Dat X.K F A0 d z ∧ RelV z u := fun i u h => by
    have hl : i < vs.length := by rw [r.length]; exact (List.getElem?_eq_some_iff.mp h).1
    obtain ⟨u', h1, h2⟩ := r.get (List.getElem?_eq_getElem hl)
    rw [h] at h1; cases h1
    obtain ⟨d, h3, h4⟩ := hd.get' (List.getElem?_eq_getElem hl)
    exact ⟨d, _, h3, h4, h2⟩
  let e : Value → Bool := fun u => decide (∃ d z, d ∈ ds ∧ Dat X.K F A0 d z ∧ RelV z u ∧ eqN 59 d dx = some true)
  refine ⟨e, fun y hy => ?_, ?_⟩
  · have hy' : y ∈ its := by simpa using hy
    obtain ⟨i, hi⟩ := List.getElem?_of_mem hy'
    obtain ⟨d, z, h1, h2, h3⟩ := key i y hi
    have hm := List.mem_of_getElem? h1
    obtain ⟨b, hb⟩ := ok.2 d hm
    have ans := eqAtD I hF 59 X.A.in1 (by show X.A.units + 1 + 59 < cLine; omega) d dx z x y v b h2 hx h3 rx hb
    have eb : e y = b := by
      cases b with
      | true => exact decide_eq_true ⟨d, z, hm, h2, h3, hb⟩
      | false =>
        refine decide_eq_false fun ⟨d', z', hm', h2', h3', hb'⟩ => ?_
        have ez := h3.inj h3'
        subst ez
        have := Dat.inj I hF d d' z (pureL_mem ok.1 hm) (pureL_mem ok.1 hm') h2 h2'
        subst this
        rw [hb] at hb'; cases hb'
    rw [eb]
    exact ans
  · show its.toArray.any e = _
    rw [show its.toArray.any e = its.any e by simp]
    refine any_e (I := True) (fun u hu he => ?_) fun d hm hf => ?_
    · obtain ⟨d, z, hm, _, _, hb⟩ := of_decide_eq_true he
      exact ⟨d, hm, by rw [hb]; rfl⟩
    · obtain ⟨i, hi⟩ := List.getElem?_of_mem hm
      obtain ⟨z, h1, h2⟩ := hd.get hi
      obtain ⟨u, h3, h4⟩ := r.get h1
      refine ⟨u, List.mem_of_getElem? h3, decide_eq_true ⟨d, z, hm, h2, h4, ?_⟩⟩
      obtain ⟨b, hb⟩ := ok.2 d hm
      rw [hb] at hf ⊢
      simpa using hf
theorem op_inN (hu : X.A.units + 64 < cLine) : OpR X (compareOp .In) (rInN X.K id) := by
  intro pins s σ H x y v u Q I rx ry h
  obtain ⟨F, A0, p, vs, ds, dx, hF, rfl, hq, hd, hx, ok, q⟩ := h
  cases ry
  rcases hq with hq | hq
  · obtain ⟨its, r, l⟩ := isList_of I hq
    obtain ⟨e, h1, h2⟩ := inN_core hu I hF rx r hd hx ok
    exact SeqAt.in_listAt e l h1 ⟨.bl _, H, I, by rw [h2]; rfl, q⟩
  · obtain ⟨its, r, l⟩ := isTup_of I hq
    obtain ⟨e, h1, h2⟩ := inN_core hu I hF rx r hd hx ok
    exact SeqAt.in_tupleAt e l h1 ⟨.bl _, H, I, by rw [h2]; rfl, q⟩
theorem op_notInN (hu : X.A.units + 64 < cLine) : OpR X (compareOp .NotIn) (rInN X.K Bool.not) := by
  intro pins s σ H x y v u Q I rx ry h
  obtain ⟨F, A0, p, vs, ds, dx, hF, rfl, hq, hd, hx, ok, q⟩ := h
  cases ry
  rcases hq with hq | hq
  · obtain ⟨its, r, l⟩ := isList_of I hq
    obtain ⟨e, h1, h2⟩ := inN_core hu I hF rx r hd hx ok
    exact SeqAt.notIn_listAt e l h1 ⟨.bl _, H, I, by rw [h2]; rfl, q⟩
  · obtain ⟨its, r, l⟩ := isTup_of I hq
    obtain ⟨e, h1, h2⟩ := inN_core hu I hF rx r hd hx ok
    exact SeqAt.notIn_tupleAt e l h1 ⟨.bl _, H, I, by rw [h2]; rfl, q⟩
/-- x in a list or a tuple -/
def oIn (g : Bool → Bool) : O2 := fun x y s Q => ∃ ds, (seqL s y = some ds ∨ seqT y = some ds) ∧ InOk ds x ∧ Q (.bl (g (inAny ds x))) s
theorem mono_oIn {g : Bool → Bool} : MonoO (oIn g) := fun _ _ _ _ _ f ⟨ds, e, h, q⟩ => ⟨ds, e, h, f _ _ q⟩
theorem oIn_rd {g : Bool → Bool} (x y : D) (s : Sto) (v w : V) (H : Hp) (A B : List Addr) (Q : VK) (R : RepS X.K B H A s) (dv : Dat X.K (Fz B H A s) A x v) (dw : Dat X.K (Fz B H A s) A y w) (h : oIn g x y s (PostE X.K B H A s Q)) : rInN X.K g v w H Q := by
  obtain ⟨ds, e, ok, q⟩ := h
  rcases e with e | e
  · obtain ⟨a, vs, rfl, h1, h2⟩ := of_seqL R dw e
    exact ⟨_, _, a, vs, ds, x, fz_same, rfl, .inl h1, h2, dv, ok, q.here R (.bl _)⟩
  · obtain ⟨a, vs, rfl, h1, h2⟩ := of_seqT dw e
    exact ⟨_, _, a, vs, ds, x, fz_same, rfl, .inr h1, h2, dv, ok, q.here R (.bl _)⟩
theorem opx_in (hu : X.A.units + 64 < cLine) : OpX X (compareOp .In) (oIn id) := opx_of (op_inN hu) oIn_rd
theorem opx_notIn (hu : X.A.units + 64 < cLine) : OpX X (compareOp .NotIn) (oIn Bool.not) := opx_of (op_notInN hu) oIn_rd
/-- a sign in a text -/
def oInS (g : Bool → Bool) : O2 := fun x y s Q => ∃ (c : Nat) (z : Str), x = .str ⟨#[c]⟩ ∧ y = .str z ∧ Q (.bl (g (decide (c ∈ z.cps.toList)))) s
theorem mono_oInS {g : Bool → Bool} : MonoO (oInS g) := fun _ _ _ _ _ f ⟨c, z, e, h, q⟩ => ⟨c, z, e, h, f _ _ q⟩
theorem opx_inS : OpX X (compareOp .In) (oInS id) := opx_of op_in_sign fun x y s v w H A B Q R dv dw ⟨c, z, ex, ey, q⟩ => by
  subst ex ey
  cases dv
  cases dw
  exact ⟨c, z, rfl, rfl, q.here R (.bl _)⟩
theorem opx_notInS : OpX X (compareOp .NotIn) (oInS Bool.not) := opx_of op_notIn_sign fun x y s v w H A B Q R dv dw ⟨c, z, ex, ey, q⟩ => by
  subst ex ey
  cases dv
  cases dw
  exact ⟨c, z, rfl, rfl, q.here R (.bl _)⟩
def oOr (o o' : O2) : O2 := fun x y s Q => o x y s Q ∨ o' x y s Q
theorem mono_oOr {o o' : O2} (m : MonoO o) (m' : MonoO o') : MonoO (oOr o o') := fun _ _ _ _ _ f h => h.elim (fun h => .inl (m _ _ _ _ _ f h)) fun h => .inr (m' _ _ _ _ _ f h)
theorem opx_inA (hu : X.A.units + 64 < cLine) : OpX X (compareOp .In) (oOr (oInS id) (oIn id)) := opx_inS.or (opx_in hu)
theorem opx_notInA (hu : X.A.units + 64 < cLine) : OpX X (compareOp .NotIn) (oOr (oInS Bool.not) (oIn Bool.not)) := opx_notInS.or (opx_notIn hu)
/-- is None, is not None -/
def isNone : D → Bool
  | .non => true
  | _ => false
def isF (_ : Sto) (x y : D) : Option D := match y with
  | .non => some (.bl (isNone x))
  | _ => none
def isNotF (_ : Sto) (x y : D) : Option D := match y with
  | .non => some (.bl (!isNone x))
  | _ => none
theorem isNone_v {K : PySem.W.Frag} {F : Hp} {A : List Addr} {x : D} {v : V} (h : Dat K F A x v) : decide (v = .non) = isNone x := by
  cases h <;> first | rfl | exact decide_eq_false (fun z => nomatch z)
theorem opx_is : OpX X (compareOp .Is) (oF isF) := opx_of op_isN fun x y s v w H A B Q R dv dw ⟨z, e, q⟩ => by
  cases y <;> first | cases e | skip
  cases dw
  refine ⟨rfl, ?_⟩
  rw [isNone_v dv]
  exact q.here R (.bl _)
theorem opx_isNot : OpX X (compareOp .IsNot) (oF isNotF) := opx_of op_notN fun x y s v w H A B Q R dv dw ⟨z, e, q⟩ => by
  cases y <;> first | cases e | skip
  cases dw
  refine ⟨rfl, ?_⟩
  rw [isNone_v dv]
  exact q.here R (.bl _)
end
end Dl
set_option Elab.async false
set_option linter.all false
set_option autoImplicit false
set_option maxRecDepth 100000
set_option maxHeartbeats 4000000
namespace Dl
open PySem PySem.Spec PyProof.Rows L2
def tyName (s : Sto) : D → Option String
  | .non => some "NoneType"
  | .bl _ => some "bool"
  | .int _ => some "int"
  | .str _ => some "str"
  | .tup _ => some "tuple"
  | .lst _ => some "list"
  | .frl _ => none
  | .exc _ _ _ => none
  | .dk _ _ => some "dict"
  | .dt _ _ => some "dict"
  | .ref l => match s[l]? with
    | some (some (.lst _)) => some "list"
    | some (some (.dk _ _)) => some "dict"
    | some (some (.dt _ _)) => some "dict"
    | some (some (.fdk _ _)) => some "dict"
    | _ => none
theorem tyx_tup {K : PySem.W.Frag} {H : Hp} {a : Addr} {vs : List V} (h : SqT K H a vs) : TyX K H (.ref a) (.type "tuple") := by
  rcases h with (h | ⟨o, h⟩) | ⟨o, its, n, h1, h2, h3, h4⟩
  · exact .base (.tup h)
  · exact .fTuple h
  · exact .kTuple h1 h2
theorem tyx_of {K : PySem.W.Frag} {B : List Addr} {H : Hp} {A : List Addr} {s : Sto} {x : D} {v : V} {n : String} (R : RepS K B H A s) (dv : Dat K (Fz B H A s) A x v) (h : tyName s x = some n) : TyX K H v (.type n) := by
  cases dv with
  | non => cases h; exact .base .non
  | bl _ => cases h; exact .base (.bl _)
  | int _ => cases h; exact .base (.int _)
  | str _ _ => cases h; exact .base (.str _)
  | tup h1 _ =>
    cases h
    exact tyx_tup (sqT_fz h1)
  | lst h1 _ => cases h; exact .base (.lst (fz_of h1).1)
  | frl _ _ => cases h
  | exc _ _ => cases h
  | dk h1 _ => cases h; exact .base (.dK (fz_of h1).1)
  | dt h1 _ => cases h; exact .base (.dT (fz_of h1).1)
  | @ref l a hA =>
    cases hs : s[l]? with
    | none => unfold tyName at h; simp only [hs] at h; cases h
    | some o =>
      cases o with
      | none => unfold tyName at h; simp only [hs] at h; cases h
      | some mo =>
        obtain ⟨a', ha', ob⟩ := R.ob l mo hs
        rw [hA] at ha'; cases ha'
        cases mo with
        | lst ds => unfold tyName at h; simp only [hs] at h; cases h; obtain ⟨vs, e, _⟩ := ob; exact .base (.lst e)
        | dk ks ds => unfold tyName at h; simp only [hs] at h; cases h; obtain ⟨vs, e, _⟩ := ob; exact .base (.dK e)
        | dt ks ds => unfold tyName at h; simp only [hs] at h; cases h; obtain ⟨vs, e, _⟩ := ob; exact .base (.dT e)
        | ins C fs => unfold tyName at h; simp only [hs] at h; cases h
        | fdk ks ds => unfold tyName at h; simp only [hs] at h; cases h; obtain ⟨o, vs, e, _⟩ := ob; exact .fDict e
        | fdt ks ds => unfold tyName at h; simp only [hs] at h; cases h
/-- the built-in classes that are asked for -/
def isSub (a T : String) : Bool := a == T || (a == "bool" && T == "int")
theorem kit_of_names {K : PySem.W.Frag} {a T : String} (ha : a ∈ ["NoneType", "bool", "int", "str", "tuple", "list", "dict"]) (hT : T ∈ ["bool", "int", "str", "tuple", "list", "dict"]) : PySem.W.kitOne K (.type a) (.type T) = some (isSub a T) := by
  simp only [List.mem_cons, List.not_mem_nil, or_false] at ha hT
  rcases ha with rfl | rfl | rfl | rfl | rfl | rfl | rfl <;> rcases hT with rfl | rfl | rfl | rfl | rfl | rfl <;> exact kit_ty (by decide +kernel)
theorem tyName_mem {s : Sto} {x : D} {n : String} (h : tyName s x = some n) : n ∈ ["NoneType", "bool", "int", "str", "tuple", "list", "dict"] := by
  unfold tyName at h
  split at h <;> first | (cases h; decide) | cases h | skip
  split at h <;> first | (cases h; decide) | cases h
def isiF (T : String) (s : Sto) (x : D) : Option D := (tyName s x).map fun a => .bl (isSub a T)
section
variable {pos p : Pos} {e : Expr} {te : ED}
theorem pd_isi {X : DX} {T : Str} {n : String} {pT : Pos} (hg : Gl X "isinstance") (hm : X.mg "isinstance" = none) (hgT : Gl X T) (hmT : X.mg T = none) (hv : bootBuiltins T = some (.type n)) (hT : n ∈ ["bool", "int", "str", "tuple", "list", "dict"]) (he : PD X e te)
    (hn : T ≠ "__name__" := by decide) (hd : (T == ("__debug__" : Str)) = false := by decide)
    (h1 : starEach [e, .Name T pT] X.env = (false, eval e X.env) :: starEach [.Name T pT] X.env := by rfl) (h2 : starEach [.Name T pT] X.env = (false, eval (.Name T pT) X.env) :: starEach [] X.env := by rfl) (hpl : (backTo pos (starEach [.Name T pT] X.env)).any (·.1) = false := by rfl) :
    PD X (.Call (.Name "isinstance" p) [e, .Name T pT] [] pos) (dUn (isiF n) te) := by
  have hty : PE X (.Name T pT) (tC (.ty n)) := pe_bltn hgT hmT hv (show RelV (.ty n) (Value.type n) from rfl) hn hd
  refine ⟨pe_imp (pe_callB call_isi hg hm (show bootBuiltins "isinstance" = some (.builtin "isinstance") by decide +kernel) (pa_cons he.pe (pa_cons hty pa_nil h2) h1) (he := h1) (hpl := hpl)) fun σ H Q ⟨env, s, A, B, w, h⟩ => ?_, mono_un he.mono⟩
  refine rdE_go he.mono w h fun x s1 v H1 A1 q w1 e1 dv => ?_
  obtain ⟨z, ez, q⟩ := q
  unfold isiF at ez
  cases ht : tyName s1 x with
  | none => rw [ht] at ez; cases ez
  | some a =>
    rw [ht] at ez
    cases ez
    exact ⟨v, .ty n, .type a, .type n, isSub a n, rfl, .ty _, tyx_of w1.rs dv ht, kit_of_names (tyName_mem ht) hT, q _ _ _ w1.rs e1 (.bl _)⟩
def CallX (X : Cx) (F : Value) (f : Sto → List D → Option D) : Prop := ∃ r, CallR X F r ∧ ∀ (xs : List D) (s : Sto) (vs : List V) (H : Hp) (A B : List Addr) (Q : VK) (z : D), RepS X.K B H A s → DatL X.K (Fz B H A s) A xs vs → f s xs = some z → PostE X.K B H A s Q z s → r vs H Q
def dCB (f : Sto → List D → Option D) (t : AD) : ED := fun env s Q => t env s fun xs s1 => ∃ z, f s1 xs = some z ∧ Q z s1
theorem mono_CB {f : Sto → List D → Option D} {t : AD} (m : Mono t) : Mono (dCB f t) := fun _ _ _ _ g h => m _ _ _ _ (fun _ _ ⟨z, e, q⟩ => ⟨z, e, g _ _ q⟩) h
theorem cb_rd {X : DX} {F : Value} {f : Sto → List D → Option D} {t : AD} {r : List V → Hp → VK → Prop} (mt : Mono t) (l : ∀ (xs : List D) (s : Sto) (vs : List V) (H : Hp) (A B : List Addr) (Q : VK) (z : D), RepS X.K B H A s → DatL X.K (Fz B H A s) A xs vs → f s xs = some z → PostE X.K B H A s Q z s → r vs H Q) (σ : L2.St) (H : Hp) (Q : VK) (h : rdE X.kk (dCB f t) σ H Q) : tCB r (rdA X.kk t) σ H Q := by
  obtain ⟨env, s, A, B, w, h⟩ := h
  exact rdA_go mt w h fun xs s1 vs H1 A1 ⟨z, ez, q⟩ w1 e1 dv => l xs s1 vs H1 A1 B Q z w1.rs dv ez (PostE.from e1 q)
theorem pd_callB {X : DX} {x : Str} {id : String} {f : Sto → List D → Option D} {es : List Expr} {t : AD} (hc : CallX X (.builtin id) f) (hg : Gl X x) (hm : X.mg x = none) (hv : bootBuiltins x = some (.builtin id)) (ha : PAD X (e :: es) t) (hn : x ≠ "__name__" := by decide) (hdb : (x == ("__debug__" : Str)) = false := by decide)
    (he : starEach (e :: es) X.env = (false, eval e X.env) :: starEach es X.env := by rfl) (hpl : (backTo pos (starEach es X.env)).any (·.1) = false := by rfl) : PD X (.Call (.Name x p) (e :: es) [] pos) (dCB f t) := by
  obtain ⟨r, h1, h2⟩ := hc
  exact ⟨pe_imp (pe_callB h1 hg hm hv ha.pa hn hdb he hpl) (cb_rd (F := .builtin id) ha.mono h2), mono_CB ha.mono⟩
theorem pd_callTy {X : DX} {x : Str} {T : String} {f : Sto → List D → Option D} {es : List Expr} {t : AD} (hc : CallX X (.type T) f) (hg : Gl X x) (hm : X.mg x = none) (hv : bootBuiltins x = some (.type T)) (ha : PAD X (e :: es) t) (hn : x ≠ "__name__" := by decide) (hdb : (x == ("__debug__" : Str)) = false := by decide)
    (he : starEach (e :: es) X.env = (false, eval e X.env) :: starEach es X.env := by rfl) (hpl : (backTo pos (starEach es X.env)).any (·.1) = false := by rfl) : PD X (.Call (.Name x p) (e :: es) [] pos) (dCB f t) := by
  obtain ⟨r, h1, h2⟩ := hc
  exact ⟨pe_imp (pe_callTy h1 hg hm hv ha.pa hn hdb he hpl) (cb_rd (F := .type T) ha.mono h2), mono_CB ha.mono⟩
/-- len -/
def lenF (s : Sto) : List D → Option D
  | [.str z] => some (.int z.length)
  | [.tup xs] => some (.int xs.length)
  | [.dk ks _] => some (.int ks.length)
  | [.dt ks _] => some (.int ks.length)
  | [x] => (seqL s x).map fun xs => .int xs.length
  | _ => none
theorem callx_len {X : Cx} : CallX X (.builtin "len") lenF := by
  refine ⟨_, ((call_len.or call_lenD).or call_len_dT), fun xs s vs H A B Q z R dv e q => ?_⟩
  cases dv with
  | nil => cases e
  | cons d1 d2 =>
    rename_i d ds v vs
    cases d2 with
    | cons _ _ => cases d <;> cases e
    | nil =>
      cases d1 with
      | str y hy => cases e; exact .inl (.inl ⟨_, _, rfl, ⟨hy, rfl⟩, q.here R (.int _)⟩)
      | tup h1 h2 =>
        cases e
        refine .inl (.inl ⟨_, _, rfl, .inr ⟨_, sqT_fz h1, rfl⟩, ?_⟩)
        rw [h2.length]
        exact q.here R (.int _)
      | dk h1 h2 =>
        cases e
        refine .inl (.inr ⟨_, _, rfl, (fz_of h1).1, ?_⟩)
        have := q.here R (.int _)
        simpa using this
      | dt h1 h2 =>
        cases e
        refine .inr ⟨_, _, rfl, (fz_of h1).1, ?_⟩
        have := q.here R (.int _)
        simpa using this
      | non => cases e
      | bl _ => cases e
      | int _ => cases e
      | exc _ _ => cases e
      | lst h1 h2 =>
        cases e
        refine .inl (.inl ⟨_, _, rfl, .inl ⟨_, .of (fz_of h1).1, rfl⟩, ?_⟩)
        rw [h2.length]
        exact q.here R (.int _)
      | frl h1 h2 =>
        cases e
        refine .inl (.inl ⟨_, _, rfl, .inl ⟨_, sqL_fz h1.seq, rfl⟩, ?_⟩)
        rw [h2.length]
        exact q.here R (.int _)
      | @ref l a hA =>
        have e' : (seqL s (.ref l)).map (fun xs => D.int xs.length) = some z := e
        cases hs : seqL s (.ref l) with
        | none => rw [hs] at e'; cases e'
        | some ds =>
          rw [hs] at e'
          cases e'
          obtain ⟨a', vs, ea, h1, h2⟩ := of_seqL R (.ref hA) hs
          cases ea
          refine .inl (.inl ⟨_, _, rfl, .inl ⟨_, h1, rfl⟩, ?_⟩)
          rw [h2.length]
          exact q.here R (.int _)
/-- all -/
def blsOf : List D → Option (List Bool)
  | [] => some []
  | .bl b :: r => (blsOf r).map (b :: ·)
  | _ => none
theorem blsOf_eq : ∀ {ds : List D} {bs : List Bool}, blsOf ds = some bs → ds = bs.map .bl
  | [], _, h => by cases h; rfl
  | .bl b :: r, _, h => by
    unfold blsOf at h
    cases hr : blsOf r with
    | none => rw [hr] at h; cases h
    | some l => rw [hr] at h; cases h; rw [blsOf_eq hr]; rfl
  | .non :: _, _, h => by cases h
  | .int _ :: _, _, h => by cases h
  | .str _ :: _, _, h => by cases h
  | .tup _ :: _, _, h => by cases h
  | .lst _ :: _, _, h => by cases h
  | .frl _ :: _, _, h => by cases h
  | .dk _ _ :: _, _, h => by cases h
  | .dt _ _ :: _, _, h => by cases h
  | .ref _ :: _, _, h => by cases h
  | .exc _ _ _ :: _, _, h => by cases h
@[simp] theorem blsOf_map (bs : List Bool) : blsOf (bs.map D.bl) = some bs := by
  induction bs with
  | nil => rfl
  | cons b bs ih => simp [blsOf, ih]
def allF (s : Sto) : List D → Option D
  | [x] => match seqL s x with
    | some ds => (blsOf ds).map fun bs => .bl (bs.all id)
    | none => none
  | _ => none
theorem one_of {K : PySem.W.Frag} {F : Hp} {A : List Addr} {x : D} {vs : List V} (h : DatL K F A [x] vs) : ∃ v, vs = [v] ∧ Dat K F A x v := by
  cases h with
  | cons h1 h2 => cases h2; exact ⟨_, rfl, h1⟩
theorem two_of {K : PySem.W.Frag} {F : Hp} {A : List Addr} {x y : D} {vs : List V} (h : DatL K F A [x, y] vs) : ∃ v w, vs = [v, w] ∧ Dat K F A x v ∧ Dat K F A y w := by
  cases h with
  | cons h1 h2 =>
    obtain ⟨w, rfl, h3⟩ := one_of h2
    exact ⟨_, _, rfl, h1, h3⟩
theorem callx_all {X : Cx} (hc : X.calm = true) : CallX X (.builtin "all") allF := by
  refine ⟨_, cr_all hc, fun xs s vs H A B Q z R dv e q => ?_⟩
  unfold allF at e
  split at e
  · rename_i x
    obtain ⟨v, rfl, d⟩ := one_of dv
    split at e
    · rename_i ds hs
      cases hb : blsOf ds with
      | none => rw [hb] at e; cases e
      | some bs =>
        rw [hb] at e
        cases e
        obtain ⟨a, vs, rfl, h1, h2⟩ := of_seqL R d hs
        rw [blsOf_eq hb] at h2
        exact ⟨a, bs, rfl, by rw [← h2.bls]; exact h1, q.here R (.bl _)⟩
    · cases e
  · cases e
/-- abs, int, min, max, sum -/
def absF (_ : Sto) : List D → Option D
  | [.int i] => some (.int (if i < 0 then -i else i))
  | _ => none
def intF (_ : Sto) : List D → Option D
  | [.int i] => some (.int i)
  | [.bl k] => some (.int (b2n k))
  | _ => none
theorem callx_int {X : Cx} : CallX X (.type "int") intF := by
  refine ⟨_, call_int1, fun xs s vs H A B Q z R dv e q => ?_⟩
  unfold intF at e
  split at e
  · cases e
    obtain ⟨v, rfl, d⟩ := one_of dv
    cases d
    exact .inl ⟨_, rfl, q.here R (.int _)⟩
  · cases e
    obtain ⟨v, rfl, d⟩ := one_of dv
    cases d
    exact .inr ⟨_, rfl, q.here R (.int _)⟩
  · cases e
def min2F (_ : Sto) : List D → Option D
  | [.int i, .int j] => some (.int (if j < i then j else i))
  | _ => none
def max2F (_ : Sto) : List D → Option D
  | [.int i, .int j] => some (.int (if j > i then j else i))
  | _ => none
theorem callx_min2 {X : Cx} (hc : X.calm = true) : CallX X (.builtin "min") min2F := by
  refine ⟨_, call_min2 hc, fun xs s vs H A B Q z R dv e q => ?_⟩
  unfold min2F at e
  split at e
  · cases e
    obtain ⟨v, w, rfl, d, d'⟩ := two_of dv
    cases d
    cases d'
    exact ⟨_, _, rfl, q.here R (.int _)⟩
  · cases e
theorem callx_max2 {X : Cx} (hc : X.calm = true) : CallX X (.builtin "max") max2F := by
  refine ⟨_, call_max2 hc, fun xs s vs H A B Q z R dv e q => ?_⟩
  unfold max2F at e
  split at e
  · cases e
    obtain ⟨v, w, rfl, d, d'⟩ := two_of dv
    cases d
    cases d'
    exact ⟨_, _, rfl, q.here R (.int _)⟩
  · cases e
def intsOf : List D → Option (List Int)
  | [] => some []
  | .int b :: r => (intsOf r).map (b :: ·)
  | _ => none
theorem intsOf_eq : ∀ {ds : List D} {bs : List Int}, intsOf ds = some bs → ds = bs.map .int
  | [], _, h => by cases h; rfl
  | .int b :: r, _, h => by
    unfold intsOf at h
    cases hr : intsOf r with
    | none => rw [hr] at h; cases h
    | some l => rw [hr] at h; cases h; rw [intsOf_eq hr]; rfl
  | .non :: _, _, h => by cases h
  | .bl _ :: _, _, h => by cases h
  | .str _ :: _, _, h => by cases h
  | .tup _ :: _, _, h => by cases h
  | .lst _ :: _, _, h => by cases h
  | .frl _ :: _, _, h => by cases h
  | .dk _ _ :: _, _, h => by cases h
  | .dt _ _ :: _, _, h => by cases h
  | .ref _ :: _, _, h => by cases h
  | .exc _ _ _ :: _, _, h => by cases h
@[simp] theorem intsOf_map (bs : List Int) : intsOf (bs.map D.int) = some bs := by
  induction bs with
  | nil => rfl
  | cons b bs ih => simp [intsOf, ih]
def sumF (s : Sto) : List D → Option D
  | [x] => match seqL s x with
    | some ds => (intsOf ds).map fun bs => .int bs.sum
    | none => none
  | _ => none
theorem callx_sum {X : Cx} (hc : X.calm = true) : CallX X (.builtin "sum") sumF := by
  refine ⟨_, cr_sum hc, fun xs s vs H A B Q z R dv e q => ?_⟩
  unfold sumF at e
  split at e
  · rename_i x
    obtain ⟨v, rfl, d⟩ := one_of dv
    split at e
    · rename_i ds hs
      cases hb : intsOf ds with
      | none => rw [hb] at e; cases e
      | some bs =>
        rw [hb] at e
        cases e
        obtain ⟨a, vs, rfl, h1, h2⟩ := of_seqL R d hs
        rw [intsOf_eq hb] at h2
        exact ⟨a, bs, rfl, by rw [← h2.ints]; exact h1, q.here R (.int _)⟩
    · cases e
  · cases e
/-- list(x), tuple(x) of a list or a tuple -/
def seqA (s : Sto) (x : D) : Option (List D) := match x with
  | .tup xs => some xs
  | x => seqL s x
theorem of_seqA {K : PySem.W.Frag} {B : List Addr} {H : Hp} {A : List Addr} {s : Sto} {x : D} {v : V} {ds : List D} (R : RepS K B H A s) (dv : Dat K (Fz B H A s) A x v) (h : seqA s x = some ds) : ∃ a vs, v = .ref a ∧ (SqL K H a vs ∨ SqT K H a vs) ∧ DatL K (Fz B H A s) A ds vs := by
  by_cases e : ∃ xs, x = .tup xs
  · obtain ⟨xs, rfl⟩ := e
    obtain ⟨a, vs, e1, e2, e3⟩ := of_seqT dv h
    exact ⟨a, vs, e1, .inr e2, e3⟩
  · have h' : seqL s x = some ds := by
      cases x with
      | tup xs => exact absurd ⟨xs, rfl⟩ e
      | _ => exact h
    obtain ⟨a, vs, e1, e2, e3⟩ := of_seqL R dv h'
    exact ⟨a, vs, e1, .inl e2, e3⟩
def listF (s : Sto) : List D → Option D
  | [x] => (seqA s x).map .lst
  | _ => none
theorem callx_list {X : Cx} : CallX X (.type "list") listF := by
  refine ⟨_, call_list_of, fun xs s vs H A B Q z R dv e q => ?_⟩
  unfold listF at e
  split at e
  · rename_i x
    obtain ⟨v, rfl, d⟩ := one_of dv
    cases hs : seqA s x with
    | none => rw [hs] at e; cases e
    | some ds =>
      rw [hs] at e
      cases e
      obtain ⟨a, vs, rfl, h1, h2⟩ := of_seqA R d hs
      exact ⟨a, vs, rfl, h1, fun l hl => q.new R hl fun F e f => .lst f (h2.mono e fun _ _ h => h)⟩
  · cases e
def tupleF (s : Sto) : List D → Option D
  | [x] => (seqA s x).map .tup
  | _ => none
def idxF (s : Sto) (x i : D) : Option D :=
  match x, i with
  | .tup xs, .int i => atI xs i
  | .str z, .int i => (atI z.cps.toList i).map fun c => .str ⟨#[c]⟩
  | x, .int i => match seqL s x with
    | some xs => atI xs i
    | none => none
  | _, _ => none
theorem DatL.at {K : PySem.W.Frag} {F : Hp} {A : List Addr} {ds : List D} {vs : List V} {i : Int} {d : D} (h : DatL K F A ds vs) (e : atI ds i = some d) : ∃ v, atI vs i = some v ∧ Dat K F A d v := by
  unfold atI at e ⊢
  rw [h.length]
  cases hi : ixN ds.length i with
  | none => rw [hi] at e; cases e
  | some j =>
    rw [hi] at e
    exact h.get e
theorem pd_ix {X : DX} {a b : Expr} {ta tb : ED} (ha : PD X a ta) (hb : PD X b tb) (hs : PlainIx b) : PD X (.Subscript a b pos) (dBin (oF idxF) ta tb) := by
  refine ⟨pe_imp (pe_ix ix_seq ha.pe hb.pe hs) (bin_rd ha.mono hb.mono mono_oF fun x y s v w H A B Q R dv dw h => ?_), mono_bin mono_oF ha.mono hb.mono⟩
  obtain ⟨z, e, q⟩ := h
  unfold idxF at e
  split at e
  · cases dw
    cases dv with
    | tup h1 h2 =>
      obtain ⟨u, hu, du⟩ := h2.at e
      exact .inr (.inl ⟨_, _, _, u, rfl, rfl, sqT_fz h1, hu, q.here R du⟩)
  · cases dw
    cases dv with
    | str _ hz =>
      rename_i z' i
      cases hc : atI z'.cps.toList i with
      | none => rw [hc] at e; cases e
      | some c =>
        rw [hc] at e
        cases e
        exact .inr (.inr ⟨_, _, c, rfl, rfl, hz, hc, q.here R (.str _ (by show 1 ≤ sizeLine; decide))⟩)
  · cases dw
    split at e
    · rename_i xs hs
      obtain ⟨a, vs, rfl, h1, h2⟩ := of_seqL R dv hs
      obtain ⟨u, hu, du⟩ := h2.at e
      exact .inl ⟨_, _, _, u, rfl, rfl, h1, hu, q.here R du⟩
    · cases e
  · cases e
abbrev OD := En → Sto → (Option Int → Sto → Prop) → Prop
def rdO (K : KK) (t : OD) : TO := fun σ H Q => ∃ (env : En) (s : Sto) (A B : List Addr), Wo K B H A s env σ ∧ t env s fun o s' => ∀ (H' : Hp) (A' : List Addr), RepS K B H' A' s' → Ext B H A s H' A' s' → Q o H'
structure POD (X : DX) (e : Option Expr) (t : OD) : Prop where
  po : PO X e (rdO X.kk t)
  mono : Mono t
theorem po_imp {X : Cx} {e : Option Expr} {t t' : TO} (h : PO X e t) (f : ∀ σ H Q, t' σ H Q → t σ H Q) : PO X e t' := ⟨fun pins s σ H Q I q => h.run pins s σ H Q I (f σ H Q q)⟩
def dNoP : OD := fun _ s Q => Q none s
def dP (t : ED) : OD := fun env s Q => t env s fun x s1 => ∃ i, x = .int i ∧ Q (some i) s1
theorem pod_none {X : DX} : POD X none dNoP := ⟨po_imp po_none fun σ H Q ⟨env, s, A, B, w, h⟩ => h _ _ w.rs .refl, fun _ _ _ _ f h => f _ _ h⟩
theorem pod_some {X : DX} (he : PD X e te) : POD X (some e) (dP te) := ⟨po_imp (po_some he.pe) fun σ H Q ⟨env, s, A, B, w, h⟩ => rdE_go he.mono w h fun x s1 v H1 A1 ⟨i, ex, q⟩ w1 e1 dv => by
  subst ex
  cases dv
  exact ⟨i, rfl, q _ _ w1.rs e1⟩, fun _ _ _ _ f h => he.mono _ _ _ _ (fun _ _ ⟨i, e, q⟩ => ⟨i, e, f _ _ q⟩) h⟩
def cutD {α : Type} (xs : List α) (lo hi : Option Int) : List α := (xs.drop (HT.sIx xs.length 0 lo)).take (HT.sIx xs.length xs.length hi - HT.sIx xs.length 0 lo)
def sliceF (s : Sto) (x : D) (lo hi : Option Int) : Option D :=
  match x with
  | .tup xs => some (.tup (cutD xs lo hi))
  | .str z => some (.str ⟨(cutD z.cps.toList lo hi).toArray⟩)
  | x => (seqL s x).map fun xs => .lst (cutD xs lo hi)
def dSl (te : ED) (tl th : OD) : ED := fun env s Q => te env s fun x s1 => tl env s1 fun lo s2 => th env s2 fun hi s3 => ∃ z, sliceF s3 x lo hi = some z ∧ Q z s3
theorem mono_sl {tl th : OD} (me : Mono te) (ml : Mono tl) (mh : Mono th) : Mono (dSl te tl th) := fun _ _ _ _ f h => me _ _ _ _ (fun _ _ h => ml _ _ _ _ (fun _ _ h => mh _ _ _ _ (fun _ _ ⟨z, e, q⟩ => ⟨z, e, f _ _ q⟩) h) h) h
theorem DatL.cut {K : PySem.W.Frag} {F : Hp} {A : List Addr} {ds : List D} {vs : List V} (lo hi : Option Int) (h : DatL K F A ds vs) : DatL K F A (cutD ds lo hi) (cutV vs lo hi) := by
  unfold cutD cutV
  rw [h.length]
  exact (h.drop _).take _
theorem cut_whole {α : Type} {xs : List α} {lo hi : Option Int} (h : HT.sIx xs.length 0 lo = 0 ∧ HT.sIx xs.length xs.length hi = xs.length) : cutD xs lo hi = xs := by
  unfold cutD
  rw [h.1, h.2]
  simp
theorem pd_slice {X : DX} {lo hi : Option Expr} {tl th : OD} {p2 : Pos} (he : PD X e te) (hl : POD X lo tl) (hh : POD X hi th) : PD X (.Subscript e (.Slice lo hi none p2) pos) (dSl te tl th) := by
  refine ⟨pe_imp (pe_slice ((sl_list.or sl_tupA).or sl_str) he.pe hl.po hh.po) fun σ H Q ⟨env, s, A, B, w, h⟩ => ?_, mono_sl he.mono hl.mono hh.mono⟩
  refine rdE_go he.mono w h fun x s1 v H1 A1 q1 w1 e1 dv => ?_
  refine ⟨env, s1, A1, B, w1, hl.mono _ _ _ _ (fun l s2 q2 H2 A2 r2 e2 => ?_) q1⟩
  have w2 := w1.to r2 e2
  refine ⟨env, s2, A2, B, w2, hh.mono _ _ _ _ (fun u s3 q3 H3 A3 r3 e3 => ?_) q2⟩
  have d3 := (dv.ext e2).ext e3
  obtain ⟨z, ez, q⟩ := q3
  have q := PostE.from ((e1.trans e2).trans e3) q
  unfold sliceF at ez
  split at ez
  · cases ez
    cases d3 with
    | tup h1 h2 =>
      refine .inl (.inr ⟨_, _, rfl, sqT_fz h1, fun hw => ?_, fun hw p hp => q.new r3 hp fun F e f => .tup (.of f) ((h2.cut _ _).mono e fun _ _ h => h)⟩)
      rw [h2.length] at hw
      rw [cut_whole hw] at q
      exact q.here r3 (.tup h1 h2)
  · cases ez
    cases d3 with
    | str _ hz =>
      refine .inr ⟨_, rfl, hz, q.here r3 (.str _ ?_)⟩
      show (cutD _ l u).toArray.size ≤ sizeLine
      rw [List.size_toArray]
      unfold cutD
      have : ∀ (z : Str), z.cps.toList.length = z.length := fun z => by simp [Str.length]
      simp only [List.length_take, List.length_drop]
      have hz' : ∀ (z : Str), z.length ≤ sizeLine → z.cps.toList.length ≤ sizeLine := fun z h => by rw [this]; exact h
      have := hz' _ hz
      omega
  · cases hs : seqL s3 x with
    | none => rw [hs] at ez; cases ez
    | some xs =>
      rw [hs] at ez
      cases ez
      obtain ⟨a, vs, rfl, h1, h2⟩ := of_seqL r3 d3 hs
      exact .inl (.inl ⟨a, vs, rfl, h1, fun p hp => q.new r3 hp fun F e f => .lst f ((h2.cut _ _).mono e fun _ _ h => h)⟩)
end
end Dl
set_option Elab.async false
set_option linter.all false
set_option autoImplicit false
set_option maxRecDepth 100000
set_option maxHeartbeats 4000000
namespace Dl
open PySem PySem.Spec PyProof.Rows L2
section
variable {pos p : Pos} {e : Expr} {te : ED}
def MtLX (X : Cx) (id : String) (f : List D → List D → Option (D × List D)) : Prop := ∃ r, MtR X id r ∧ ∀ (F : Hp) (A : List Addr) (H : Hp) (a : Addr) (vs : List V) (ds : List D) (xs : List D) (ws : List V) (z : D) (ds' : List D) (Q : VK),
  H a = some (.lst vs) → DatL X.K F A ds vs → DatL X.K F A xs ws → f ds xs = some (z, ds') → (∀ v vs', Dat X.K F A z v → DatL X.K F A ds' vs' → Q v (upd H a (.lst vs'))) → r (.ref a) ws H Q
def dMt (f : List D → List D → Option (D × List D)) (to : ED) (t : AD) : ED := fun env s Q => to env s fun o s1 => ∃ l ds0, o = .ref l ∧ s1[l]? = some (some (.lst ds0)) ∧ t env s1 fun xs s2 => ∃ ds z ds', s2[l]? = some (some (.lst ds)) ∧ f ds xs = some (z, ds') ∧ Q z (s2.set l (some (.lst ds')))
theorem mono_mt {f : List D → List D → Option (D × List D)} {to : ED} {t : AD} (mo : Mono to) (m : Mono t) : Mono (dMt f to t) := fun _ _ _ _ g h => mo _ _ _ _ (fun _ _ ⟨l, ds0, e1, e2, q⟩ => ⟨l, ds0, e1, e2, m _ _ _ _ (fun _ _ ⟨ds, z, ds', h1, h2, q⟩ => ⟨ds, z, ds', h1, h2, g _ _ q⟩) q⟩) h
theorem mt_core {X : Cx} {f : List D → List D → Option (D × List D)} {r : V → List V → Hp → VK → Prop} (hr : ∀ (F : Hp) (A : List Addr) (H : Hp) (a : Addr) (vs : List V) (ds : List D) (xs : List D) (ws : List V) (z : D) (ds' : List D) (Q : VK),
    H a = some (.lst vs) → DatL X.K F A ds vs → DatL X.K F A xs ws → f ds xs = some (z, ds') → (∀ v vs', Dat X.K F A z v → DatL X.K F A ds' vs' → Q v (upd H a (.lst vs'))) → r (.ref a) ws H Q)
    {B : List Addr} {H : Hp} {A : List Addr} {s : Sto} {l : Nat} {a : Addr} {ds : List D} {xs : List D} {ws : List V} {z : D} {ds' : List D} {Q : VK} (R : RepS X.K B H A s) (hA : A[l]? = some a) (hs : s[l]? = some (some (.lst ds))) (dw : DatL X.K (Fz B H A s) A xs ws) (hf : f ds xs = some (z, ds'))
    (q : PostE X.K B H A s Q z (s.set l (some (.lst ds')))) : r (.ref a) ws H Q := by
  obtain ⟨a', ha', vs, hv, hd⟩ := R.ob l _ hs
  rw [hA] at ha'; cases ha'
  refine hr _ _ H a vs ds xs ws z ds' Q hv hd dw hf fun v vs' dz dd => ?_
  obtain ⟨r2, e2⟩ := R.write (o := .lst vs') (mo' := .lst ds') hs hA ⟨vs', upd_same, dd⟩
  exact q v _ _ r2 e2 (dz.ext e2)
theorem pd_mt {X : DX} {f : List D → List D → Option (D × List D)} {id : String} {name : Str} {o : Expr} {es : List Expr} {to : ED} {t : AD} {apos cpos : Pos} (slot : Slot "list" name id) (hty : typeOf (.builtin id) = pure (.type "method_descriptor")) (hm : MtLX X id f) (ho : PD X o to) (ha : PAD X (e :: es) t)
    (hbase : attributeBase o name X.env (eval o X.env) = eval o X.env := by rfl)
    (hfew : ((backTo cpos (starEach (e :: es) X.env)).all (fun x => !x.1) && (backToKw cpos (keywordEach [] X.env)).all (fun x => x.1.isSome)
      && decide ((e :: es).length + ([] : List Keyword).length + (if ([] : List Keyword).isEmpty then 0 else 1) < 30)) = true := by rfl)
    (hline : (apos.endLine == cpos.line) = true := by rfl) (hs : starEach (e :: es) X.env = (false, eval e X.env) :: starEach es X.env := by rfl) (hplain : (backTo cpos (starEach es X.env)).any (·.1) = false := by rfl) :
    PD X (.Call (.Attribute o name apos) (e :: es) [] cpos) (dMt f to t) := by
  obtain ⟨r, h1, h2⟩ := hm
  refine ⟨pe_imp (pe_bm PySem.F.plainAttrs_list slot hty h1 ho.pe ha.pa hbase hfew hline hs hplain) fun σ H Q ⟨env, s, A, B, w, h⟩ => ?_, mono_mt ho.mono ha.mono⟩
  refine rdE_go ho.mono w h fun x s1 v H1 A1 q1 w1 e1 dv => ?_
  obtain ⟨l, ds0, rfl, hl, q1⟩ := q1
  cases dv with
  | ref hA =>
    obtain ⟨a', ha', vs0, hv0, _⟩ := w1.rs.ob l _ hl
    rw [hA] at ha'; cases ha'
    refine ⟨.inl ⟨rfl, _, .of hv0⟩, rdA_go ha.mono w1 q1 fun xs s2 ws H2 A2 q2 w2 e2 dw => ?_⟩
    obtain ⟨ds, z, ds', hs2, hf, q⟩ := q2
    exact mt_core h2 w2.rs (e2.pre _ _ hA) hs2 dw hf (PostE.from (e1.trans e2) q)
def fAppend (ds : List D) : List D → Option (D × List D)
  | [y] => if ds.length < sizeLine then some (.non, ds ++ [y]) else none
  | _ => none
theorem mtx_append {X : Cx} : MtLX X "list.append" fAppend := by
  refine ⟨_, mt_append, fun F A H a vs ds xs ws z ds' Q hv hd hw hf q => ?_⟩
  unfold fAppend at hf
  split at hf
  · split at hf
    · cases hf
      rename_i hz
      obtain ⟨v, rfl, d⟩ := one_of hw
      exact ⟨a, vs, v, rfl, rfl, hv, by rw [hd.length]; exact hz, q _ _ .non (hd.append (.cons d .nil))⟩
    · cases hf
  · cases hf
def fPop (ds : List D) : List D → Option (D × List D)
  | [.int i] => if -(2 ^ 63) ≤ i ∧ i < 2 ^ 63 then (match ixN ds.length i with
    | some k => (ds[k]?).map fun y => (y, ds.eraseIdx k)
    | none => none) else none
  | _ => none
theorem mtx_pop {X : Cx} : MtLX X "list.pop" fPop := by
  refine ⟨_, mt_popAt, fun F A H a vs ds xs ws z ds' Q hv hd hw hf q => ?_⟩
  unfold fPop at hf
  split at hf
  · rename_i i
    obtain ⟨v, rfl, d⟩ := one_of hw
    cases d
    split at hf
    · rename_i hb
      split at hf
      · rename_i k hk
        cases hy : ds[k]? with
        | none => rw [hy] at hf; cases hf
        | some y =>
          rw [hy] at hf
          cases hf
          obtain ⟨u, hu, du⟩ := hd.get hy
          exact ⟨a, vs, i, k, u, rfl, rfl, hv, hb.1, hb.2, by rw [hd.length]; exact (ixN_seq hk).1, hu, q _ _ du (hd.eraseIdx k)⟩
      · cases hf
    · cases hf
  · cases hf
def strsOf : List D → Option (List Str)
  | [] => some []
  | .str b :: r => (strsOf r).map (b :: ·)
  | _ => none
theorem strsOf_eq : ∀ {ds : List D} {bs : List Str}, strsOf ds = some bs → ds = bs.map .str
  | [], _, h => by cases h; rfl
  | .str b :: r, _, h => by
    unfold strsOf at h
    cases hr : strsOf r with
    | none => rw [hr] at h; cases h
    | some l => rw [hr] at h; cases h; rw [strsOf_eq hr]; rfl
  | .non :: _, _, h => by cases h
  | .bl _ :: _, _, h => by cases h
  | .int _ :: _, _, h => by cases h
  | .tup _ :: _, _, h => by cases h
  | .lst _ :: _, _, h => by cases h
  | .frl _ :: _, _, h => by cases h
  | .dk _ _ :: _, _, h => by cases h
  | .dt _ _ :: _, _, h => by cases h
  | .ref _ :: _, _, h => by cases h
  | .exc _ _ _ :: _, _, h => by cases h
@[simp] theorem strsOf_map (bs : List Str) : strsOf (bs.map D.str) = some bs := by
  induction bs with
  | nil => rfl
  | cons b bs ih => simp [strsOf, ih]
/-- sep.join(a list or a tuple of texts) -/
def dJoin (to te : ED) : ED := fun env s Q => to env s fun o s1 => ∃ a, o = .str a ∧ te env s1 fun x s2 => ∃ ds ys, seqA s2 x = some ds ∧ strsOf ds = some ys ∧ (ys.map (·.length)).sum + ys.length * a.length ≤ 16777216 ∧ Q (.str (Txt.join a ys)) s2
theorem mono_join {to : ED} (mo : Mono to) (me : Mono te) : Mono (dJoin to te) := fun _ _ _ _ f h => mo _ _ _ _ (fun _ _ ⟨a, e, q⟩ => ⟨a, e, me _ _ _ _ (fun _ _ ⟨ds, ys, h1, h2, h3, q⟩ => ⟨ds, ys, h1, h2, h3, f _ _ q⟩) q⟩) h
theorem join_le (sep : Str) (ys : List Str) (h : (ys.map (·.length)).sum + ys.length * sep.length ≤ 16777216) : (Txt.join sep ys).length ≤ sizeLine := by
  have h1 := PySem.StrLaws.join_length_le sep ys
  have h2 : sizeLine = 16777216 := sizeLine_eq
  have h3 : Txt.join sep ys = Str.join sep ys := by
    exact PySem.StrLaws.glued_eq_join _ _
  rw [h3]; omega
theorem pd_join {X : DX} {o : Expr} {to : ED} {apos : Pos} (ho : PD X o to) (he : PD X e te) (hs : starEach [e] X.env = [(false, eval e X.env)] := by rfl) (hbase : attributeBase o "join" X.env (eval o X.env) = eval o X.env := by rfl) (hline : (apos.endLine == pos.line) = true := by rfl) :
    PD X (.Call (.Attribute o "join" apos) [e] [] pos) (dJoin to te) := by
  refine ⟨pe_imp (pe_join ho.pe he.pe hs hbase hline) fun σ H Q ⟨env, s, A, B, w, h⟩ => ?_, mono_join ho.mono he.mono⟩
  refine rdE_go ho.mono w h fun x s1 v H1 A1 q1 w1 e1 dv => ?_
  obtain ⟨a, rfl, q1⟩ := q1
  cases dv
  refine ⟨⟨a, rfl⟩, rdE_go he.mono w1 q1 fun y s2 u H2 A2 q2 w2 e2 du => ?_⟩
  obtain ⟨ds, ys, hd, hy, hz, q⟩ := q2
  obtain ⟨b, vs, rfl, h1, h2⟩ := of_seqA w2.rs du hd
  rw [strsOf_eq hy] at h2
  rw [h2.strs] at h1
  exact ⟨a, b, ys, rfl, rfl, h1, hz, q _ _ _ w2.rs (e1.trans e2) (.str _ (join_le a ys hz))⟩
theorem int___gt___bool_int_0 (a : Bool) (b : Int) (u : Tok) : Gives (Builtin.«int.__gt__» ⟨[.bool a, .int b u], []⟩) (.val (Value.bool ((fun x1 x2 => decide (x1 > x2)) (if a = true then (1 : Int) else 0) b))) :=
  .of_wp fun M A E s Q h => by obtain ⟨hp, g, d, tk, os⟩ := s; wp_walk; exact ⟨_, rfl, h⟩
theorem gt_bool_int {P : Program} {w : World} {A : Around} {E : Value → Shared → Prop} {s : Shared} {Q : Value → Shared → Prop} {a : Bool} {b : Int} {u : Tok} (h : Q (.bool (decide (b < b2n a))) s) : wpAny (model P w) A (compareOp .Gt (.bool a) (.int b u)) Q E s := by
  show wpAny (model P w) A (richCompare .Gt (.bool a) (.int b u)) Q E s
  exact SeqAt.rc_left_or rfl (typeIs_int s b u) (by decide) F.sub_int_bool F.slot_bool_gt
    (call_gives F.slot_bool_gt rfl F.entry_int_gt (F.args_int_gt_2 _ _) (int___gt___bool_int_0 a b u) ⟨nofun, h⟩) (.inl rfl)
def gtBF (_ : Sto) (x y : D) : Option D :=
  match x, y with
  | .int i, .int j => some (.bl (decide (j < i)))
  | .bl k, .int j => some (.bl (decide (j < b2n k)))
  | _, _ => none
theorem opx_gtB {X : Cx} : OpX X (compareOp .Gt) (oF gtBF) := by
  have h1 : OpX X (compareOp .Gt) (oII fun i j => .bl (decide (j < i))) := opx_ii op_gt fun _ _ _ _ => .bl _
  have h2 : OpX X (compareOp .Gt) (oBI fun i j => .bl (decide (j < i))) := opx_bi (g := fun i j => .bl (decide (j < i))) (opr_bi (g := fun i j => .bl (decide (j < i))) fun k j u pins s σ H Q I q => gt_bool_int ⟨.bl _, H, I, rfl, q⟩) fun _ _ _ _ => .bl _
  refine (h1.or h2).imp ?_
  rintro x y s Q ⟨z, e, q⟩
  unfold gtBF at e
  split at e
  · cases e; exact .inl ⟨_, _, rfl, rfl, q⟩
  · cases e; exact .inr ⟨_, _, rfl, rfl, q⟩
  · cases e
end
def envD (N : List Str) (ds : List D) : En := ds.map some ++ List.replicate (N.length - ds.length) none
theorem repE_start {K : PySem.W.Frag} {F : Hp} {A : List Addr} {N : List Str} {ds : List D} {vs : List V} (h : DatL K F A ds vs) : RepE K F A (envD N ds) (L2.start N vs) := by
  refine ⟨by unfold envD L2.start; simp [h.length], fun i d e => ?_⟩
  unfold envD at e
  by_cases hi : i < ds.length
  · rw [List.getElem?_append_left (by simpa using hi), List.getElem?_map] at e
    cases q : ds[i]? with
    | none => rw [q] at e; cases e
    | some d' =>
      rw [q] at e
      cases e
      obtain ⟨v, h1, h2⟩ := h.get q
      refine ⟨v, ?_, h2⟩
      unfold L2.start
      rw [List.getElem?_append_left (by rw [List.length_map, h.length]; exact hi), List.getElem?_map, h1]
      rfl
  · rw [List.getElem?_append_right (by simpa using hi), List.getElem?_replicate] at e
    split at e <;> cases e
/-- nothing but what is returned is wanted -/
def endsOf (Q : D → Sto → Prop) : EndsD := ⟨fun _ s => Q .non s, Q, fun _ _ => False, fun _ _ => False⟩
/-- a def's body, by its rules: what the frame asks -/
theorem fn_ofG {CX : CXT} {P : Program} {w : World} {K : PySem.W.Frag} {mg : Str → Option Value} {base : Heap} {k : Nat} {f : Addr} {name qual : Str} {params : Arguments} {body : List Stmt} {scope : Scope} {dV kV doc pm cdv ct oc : Value} {an od : Option Addr} {osl : Array (Option Value)} {N ps : List Str} {sp : SpD}
    (look : K.lookup f = some ⟨oc, od, .func (PySem.W.fnOf name qual params body scope dV kV doc pm an cdv ct), osl⟩) (code : PySem.W.codeIn K cdv qual = true) (S : FnScope N ps scope) (len : ∀ ds s Q E, sp ds s Q E → ds.length = ps.length) (mono : MonoSp sp)
    (hbody : ∀ (A : Around) (outer : List PySem.Env) (s : Shared) (H : Hp) (vs : List V) (Q : VK) (E : XK), RoomG k (A.deeper (envOfC qual scope s.heap.objs.size f cdv)) → liftSp K mg sp vs H Q E →
      ∃ t : TS, PSs (cxOf CX P w K mg base N qual scope f cdv A outer s H E) body t ∧ t { nx := fun _ H2 => Q .non H2, rt := Q } (L2.start N vs) H) : FnD P w K mg base CX (k + 1) f (PySem.W.fnOf name qual params body scope dV kV doc pm an cdv ct) ps sp := by
  refine ⟨len, ?_, mono⟩
  intro A outer s H args us vs Q E room e0 bind rel want
  have nl := liftSp.len len want
  have keep : ∀ b o, base.get? b = some o → s.heap.get? b = some o := fun b o z => (e0.bs b o z).1
  have KX : K.In s.heap := e0.mod.kin.keeps keep
  have lim := e0.mod.nolimit.keeps keep
  have kinds : ∀ y ∈ ps.zip us, scope.names.lookup y.1 = some .local ∨ (scope.names.lookup y.1 = some .cell ∧ ((cellsFrom (s.heap.objs.size + 1) scope.names []).lookup y.1).isSome = true) := by
    rintro ⟨n, v⟩ hy
    exact (S.par n (List.of_mem_zip hy).1).imp id fun q => ⟨q, PySem.W.cellsFrom_some _ _ _ (.inl q)⟩
  refine codeAny_call_function room.r.depth (KX _ _ look) rfl S.co S.gen rfl (PySem.W.codeRec_of KX code) (bind _ _ _ _ ?_)
  refine wpAny_newFunctionEnv_cells S.kind kinds ?_
  intro env he s1 x
  subst he
  refine ⟨lim.keeps x.toInCall.keep, codeAny_func ?_⟩
  obtain ⟨t, rule, q⟩ := hbody A outer s H vs Q E (room.deeper _) want
  refine wpAny_mono (rule.run [] s1 (L2.start N vs) H _ (inv_start S room.r.hd e0 nl rel x) q) (fun o s2 ho => ?_) fun _ _ ho => ho
  have out : ∀ {σ2 : L2.St} {H2 : Hp} {v : V} {u : Value}, Inv (cxOf CX P w K mg base N qual scope f cdv A outer s H E) [] σ2 H2 s2 → RelV v u → Q v H2 → CE outer P w H s Q u s2 := fun {σ2 H2 v u} J rv q2 => ⟨v, H2, J.os, J.bare, J.base, J.hok, rv, q2⟩
  cases o with
  | ret u => exact let ⟨v, σ2, H2, J, rv, q2⟩ := ho; out J rv q2
  | next => exact let ⟨σ2, H2, J, q2⟩ := ho; out (v := V.non) (u := Value.none) J rfl q2
  | brk => exact let ⟨_, _, _, q2⟩ := ho; q2.elim
  | cont => exact let ⟨_, _, _, q2⟩ := ho; q2.elim
theorem fnD {P : Program} {w : World} {K : PySem.W.Frag} {mg : Str → Option Value} {base : Heap} {x qual : Str} {st : Stmt} {f : Addr} {fd : FuncData} {N ps : List Str} {k : Nat} {sp : SpD} {tb : SD} (F : Fun K x qual st f fd) (S : FnScope N ps (defScope st)) (mono : MonoSp sp)
    (len : ∀ ds s Q E, sp ds s Q E → ds.length = ps.length)
    (body : ∀ (cdv : Value) (A : Around) (outer : List PySem.Env) (s : Shared) (H : Hp) (E : XK), RoomG k (A.deeper (envOfC qual (defScope st) s.heap.objs.size f cdv)) → PSsD (dx0 (cxOf CX0 P w K mg base N qual (defScope st) f cdv A outer s H E).nox) (defBody st) tb)
    (h : ∀ ds s Q E, sp ds s Q E → tb (endsOf Q) (envD N ds) s) : FnD P w K mg base CX0 (k + 1) f fd ps sp := by
  obtain ⟨oc, od, kV, doc, pm, an, cdv, ct, osl, rfl, lk, hcd⟩ := F.ex
  refine fn_ofG lk hcd S len mono fun A outer s H vs Q E hr hs => ?_
  obtain ⟨ds, s0, A0, B, R, d, q⟩ := hs
  have b := body cdv A outer s H E hr
  refine ⟨_, b.pss.nox, envD N ds, s0, A0, B, ⟨R, repE_start d, trivial⟩, b.mono (endsOf (PostE K B H A0 s0 Q)) _ _ _ ⟨fun e s' q σ' H' A' r x re => ?_, fun _ _ q => q, fun _ _ q => False.elim q, fun _ _ q => False.elim q⟩ (h _ _ _ _ q)⟩
  exact q V.non H' A' r x .non
/-- the place of a body that may raise: what is known is that the world came from the start's -/
def dxR {CX : CXT} (P : Program) (w : World) (K : PySem.W.Frag) (mg : Str → Option Value) (base : Heap) (N : List Str) (qual : Str) (scope : Scope) (f : Addr) (cdv : Value) (A : Around) (outer : List PySem.Env) (s : Shared) (H : Hp) (E : XK) (hC : CX = L2.CX P w) (B0 : List Addr) (A0 : List Addr) (s0 : Sto) : DX :=
  { cxOf CX P w K mg base N qual scope f cdv A outer s H E with
    W := fun cls d _ H' => E cls d H'
    tk := by subst hC; exact takes_of rfl rfl rfl rfl
    Z := fun B H1 A1 s1 => B = B0 ∧ Ext B0 H A0 s0 H1 A1 s1
    zc := fun {B H1 H2 A1 A2 s1 s2} z e => ⟨z.1, z.2.trans (by rw [← z.1]; exact e)⟩
    WD := fun x fs _ s' => PostX K mg B0 H A0 s0 E x fs s'
    wd := fun x fs env s' cls dx σ B H' A' wo hm xr h => by
      obtain ⟨rs, re, rfl, ex⟩ := wo
      exact h cls dx H' A' hm rs ex xr }
/-- .. by the body's reading for every wish -/
theorem fnDX {P : Program} {w : World} {K : PySem.W.Frag} {mg : Str → Option Value} {base : Heap} {x qual : Str} {st : Stmt} {f : Addr} {fd : FuncData} {N ps : List Str} {k : Nat} {sp : SpD} {tb : WXD → SD} (F : Fun K x qual st f fd) (S : FnScope N ps (defScope st)) (mono : MonoSp sp)
    (len : ∀ ds s Q E, sp ds s Q E → ds.length = ps.length)
    (body : ∀ (cdv : Value) (A : Around) (outer : List PySem.Env) (s : Shared) (H : Hp) (E : XK) (B0 A0 : List Addr) (s0 : Sto), RoomG k (A.deeper (envOfC qual (defScope st) s.heap.objs.size f cdv)) →
      PSsD (dxR P w K mg base N qual (defScope st) f cdv A outer s H E rfl B0 A0 s0) (defBody st) (tb fun y fs _ s' => PostX K mg B0 H A0 s0 E y fs s'))
    (h : ∀ ds s Q E, sp ds s Q E → tb (fun y fs _ s' => E y fs s') (endsOf Q) (envD N ds) s) : FnD P w K mg base (L2.CX P w) (k + 1) f fd ps sp := by
  obtain ⟨oc, od, kV, doc, pm, an, cdv, ct, osl, rfl, lk, hcd⟩ := F.ex
  refine fn_ofG lk hcd S len mono fun A outer s H vs Q E hr hs => ?_
  obtain ⟨ds, s0, A0, B, R, d, q⟩ := hs
  have b := body cdv A outer s H E B A0 s0 hr
  refine ⟨_, b.pss, envD N ds, s0, A0, B, ⟨R, repE_start d, rfl, .refl⟩, b.mono (endsOf (PostE K B H A0 s0 Q)) _ _ _ ⟨fun e s' q σ' H' A' r x re => ?_, fun _ _ q => q, fun _ _ q => False.elim q, fun _ _ q => False.elim q⟩ (h _ _ _ _ q)⟩
  exact q V.non H' A' r x .non
def spLaw : SpD := fun ds s Q _ => ∃ ns : List Int, ds = [.frl (ns.map .int)] ∧ ns.length ≤ 63 ∧ (∀ z ∈ ns, Builtin.Int.intBits z ≤ 1048576) ∧ s = [] ∧ ∀ s', Q (.bl true) s'
theorem mono_spLaw : MonoSp spLaw := fun _ _ _ _ _ _ f _ ⟨ns, h1, h2, h3, h4, h5⟩ => ⟨ns, h1, h2, h3, h4, fun s' => f _ _ (h5 s')⟩
theorem len_spLaw {ps : List Str} (hn : ps.length = 1 := by rfl) : ∀ ds s Q E, spLaw ds s Q E → ds.length = ps.length := fun _ _ _ _ ⟨ns, h1, _⟩ => by rw [h1, hn]; rfl
def tabCs (K : PySem.W.Frag) : List (Addr × Addr) := lamNames.filterMap fun x => PySem.W.tabIn K x
/-- the heap of a law's start: the script, if it is read alone, and the empty tables -/
def OnlyT (H : Hp) (cs : List (Addr × Addr)) : Prop := ∀ b, H b = none ∨ b ∈ cs.map (·.2) ∨ ∃ o xs, H b = some (.frz o (.lst xs))
theorem tabs_start {K : PySem.W.Frag} {H : Hp} (hT : ∀ p ∈ tabCs K, H p.2 = some (.tbl #[])) : LamX.Tabs (tabsOf K) H := fun p hp => by
  obtain ⟨x, hx, e⟩ := List.mem_filterMap.mp hp
  cases ht : PySem.W.tabIn K x with
  | none => rw [ht] at e; cases e
  | some cp =>
    rw [ht] at e
    cases e
    exact .nil (hT cp (List.mem_filterMap.mpr ⟨x, hx, ht⟩))
theorem law_hsp {K : PySem.W.Frag} {mg : Str → Option Value} {H : Hp} {a : Addr} {ns : List Int} (hl : ns.length ≤ 63) (hb : ∀ z ∈ ns, Builtin.Int.intBits z ≤ 1048576) (hO : OnlyT H (tabCs K)) (hT : ∀ p ∈ tabCs K, H p.2 = some (.tbl #[])) (hS : SqL K H a (ns.map V.int)) : liftSp K mg spLaw [.ref a] H (fun v _ => v = .bl true) fun _ _ _ => False := by
  have R : RepS K [] H [] [] := ⟨rfl, .nil, (fun a ha => nomatch ha), (fun b hb => nomatch hb), (fun b hb => nomatch hb), (fun b hb => nomatch hb), (fun b hb => nomatch hb), tabs_start hT, (fun l mo h => nomatch (show (none : Option (Option MO)) = some (some mo) from h))⟩
  have nl : ∀ b, ¬ Live [] [] b := fun b ⟨l, mo, h, _⟩ => by simp at h
  have hF : SqF K (Fz [] H [] []) a (ns.map V.int) := by
    rcases hS with (h | ⟨o, h⟩) | h
    · rcases hO a with e | e | ⟨o, xs, e⟩
      · rw [h] at e; cases e
      · obtain ⟨p, hp, rfl⟩ := List.mem_map.mp e
        rw [hT p hp] at h; cases h
      · rw [h] at e; cases e
    · exact .inl ⟨o, fz_to h (nl _) (by simp)⟩
    · exact .inr h
  refine ⟨[.frl (ns.map .int)], [], [], [], R, .cons (.frl hF (DatL.of_ints ns)) .nil, ns, rfl, hl, hb, rfl, fun s' v H' A' r e d => ?_⟩
  cases d
  rfl
/-- what is read alone, and the tables, hidden from the ground: the ground's own facts -/
structure GroundG (K : PySem.W.Frag) (H : Hp) (a : Addr) : Prop where
  on : OnlyT H (tabCs K)
  ts : ∀ p ∈ tabCs K, H p.2 = some (.tbl #[])
  at_ : ∀ b, H b ≠ none → b = a ∨ b ∈ (tabCs K).map (·.2)
  kn : H a ≠ none → K.lookup a = none
theorem GroundG.free {K : PySem.W.Frag} {H : Hp} {a b : Addr} (g : GroundG K H a) (n : b ≠ a) (m : b ∉ (tabCs K).map (·.2)) : H b = none := by
  cases q : H b with
  | none => rfl
  | some u => exact ((g.at_ b (by simp [q])).elim n m).elim
/-- the tables stand at h, empty, and K does not tell them -/
structure TabH (K : PySem.W.Frag) (h : Heap) : Prop where
  e : ∀ p ∈ tabCs K, h.get? p.2 = some { cls := .none, data := .fields #[] }
  n : ∀ p ∈ tabCs K, K.lookup p.2 = none
  c : ∀ p ∈ tabCs K, PySem.W.CodeHd h p.1 p.2
def TabsB (K : PySem.W.Frag) (mg : Str → Option Value) (base : Heap) : Prop := ∀ p ∈ tabCs K, LamX.TabB base mg p.1 p.2
theorem law_coreG {P : Program} {w : World} {K : PySem.W.Frag} {mg mb : Str → Option Value} {fa a : Addr} {s₁ : Shared} {vs : List Value} {ns : List Int}
    (KX : K.In s₁.heap) (hns : s₁.heap.Ns mainGlobals mg) (hb : s₁.heap.Ns builtinsNs mb) (hbb : ∀ y : Str, y ≠ "__name__" → mb y = bootBuiltins y) (hlim : s₁.heap.NoLimit) (hg : s₁.gens = #[]) (hTb : TabH K s₁.heap)
    (hbm : ∃ (bm : Addr) (ob : Obj), mg "__builtins__" = some (.ref bm) ∧ bm ≠ builtinsNs ∧ s₁.heap.get? bm = some ob ∧ ob.cls = .type "module" ∧ ob.dict = some builtinsNs ∧ ob.data = .plain)
    (ha : s₁.heap.get? a = some { cls := .type "list", data := .seq vs.toArray }) (hi : IntsAre vs ns) (hl : ns.length ≤ sizeLine)
    (R : ∀ (base : Heap) (H : Hp), K.In base → base.Ns mainGlobals mg → TabsB K mg base → Env0 P w K mg base callerA [] s₁ H → OnlyT H (tabCs K) → (∀ p ∈ tabCs K, H p.2 = some (.tbl #[])) → SqL K H a (ns.map V.int) → codeAny (model P w) callerA (.call (.ref fa) ⟨[.ref a], []⟩) (CR CX0 [] P w H s₁ (fun v _ => v = .bl true) fun _ _ _ => False) s₁) :
    codeAny (model P w) callerA (.call (.ref fa) ⟨[.ref a], []⟩) (fun r s' => r = .ok (.ret (.bool true)) ∧ OldK s₁.heap s'.heap ∧ s'.os = s₁.os ∧ AllBare s'.gens) s₁ := by
  have rel := vals_ints hi
  -- at a table nothing but the empty fields stands
  have tab : ∀ b, b ∈ (tabCs K).map (·.2) → s₁.heap.get? b = some { cls := .none, data := .fields #[] } := fun b hb => by
    obtain ⟨p, hp, rfl⟩ := List.mem_map.mp hb
    exact hTb.e p hp
  have ntab : ∀ {b o}, s₁.heap.get? b = some o → o.data ≠ .fields #[] → b ∉ (tabCs K).map (·.2) := fun e n z => by
    rw [tab _ z] at e
    cases e
    exact n rfl
  have aT : a ∉ (tabCs K).map (·.2) := ntab ha (fun z => nomatch z)
  -- over a ground
  have go : ∀ H : Hp, GroundG K H a → SqL K H a (ns.map V.int) → HOk P w H s₁.heap → codeAny (model P w) callerA (.call (.ref fa) ⟨[.ref a], []⟩) (fun r s' => r = .ok (.ret (.bool true)) ∧ OldK s₁.heap s'.heap ∧ s'.os = s₁.os ∧ AllBare s'.gens) s₁ := by
    intro H gr sq ok
    have up : ∀ {b o}, s₁.heap.get? b = some o → (∀ us n, o.data ≠ .seq us n) → o.data ≠ .fields #[] → (hidT s₁.heap H).get? b = some o := fun {b o} e n1 n2 => by
      refine hidT_get e (gr.free ?_ (ntab e n2))
      rintro rfl
      rw [ha] at e
      cases e
      exact n1 _ _ rfl
    have ns_ : ∀ {b : Addr} {m : Str → Option Value}, s₁.heap.Ns b m → (hidT s₁.heap H).Ns b m := by
      rintro b m ⟨o, es, ep, e, d, r⟩
      exact ⟨o, es, ep, up e (fun us n z => by rw [d] at z; cases z) (fun z => by rw [d] at z; cases z), d, r⟩
    have kin : K.In (hidT s₁.heap H) := by
      intro b o e
      refine hidT_get (KX b o e) ?_
      have nt : b ∉ (tabCs K).map (·.2) := fun z => by
        obtain ⟨p, hp, rfl⟩ := List.mem_map.mp z
        rw [hTb.n p hp] at e; cases e
      by_cases n : b = a
      · subst n
        cases q : H b with
        | none => rfl
        | some u => rw [gr.kn (by simp [q])] at e; cases e
      · exact gr.free n nt
    have tbs : TabsB K mg (hidT s₁.heap H) := fun p hp => by
      obtain ⟨o, es, ep, e, hd, r⟩ := hns
      obtain ⟨bm, ob, b1, b2, b3, b4, b5, b6⟩ := hbm
      have tp := hTb.e p hp
      refine ⟨?_, ⟨bm, ob, b1, b2, fun z => ?_, fun z => ?_, up b3 (fun us n z => by rw [b6] at z; cases z) (fun z => by rw [b6] at z; cases z), b4, b5, b6⟩, fun z => ?_⟩
      · obtain ⟨oc, us, file, tf, flags, tg, inF, text, tt, c1, c2, c3, c4, cr⟩ := hTb.c p hp
        refine ⟨oc, us, file, tf, flags, tg, inF, text, tt, up c1 (fun us n z => by rw [c3] at z; cases z) (fun z => ?_), c2, c3, c4, cr⟩
        rw [c3] at z
        cases z
        simp at c4
      · rw [z, e] at b3
        cases b3
        rw [hd] at b6
        cases b6
      · rw [z, tp] at b3
        cases b3
        cases b6
      · rw [z, tp] at e
        cases e
        cases hd
    obtain ⟨mc, c1, c2⟩ := hlim
    have e0 : Env0 P w K mg (hidT s₁.heap H) callerA [] s₁ H :=
      ⟨rfl, ⟨kin, ns_ hns, ⟨mb, ns_ hb, hbb⟩, ⟨mc, ns_ c1, c2⟩⟩, fun b o => of_hidT, Nat.le_of_eq (hidT_size _ _), trivial, fun _ z => (nomatch z), ok, .of_eq hg⟩
    refine codeAny_mono (R _ H kin (ns_ hns) tbs e0 gr.on gr.ts sq) fun o s2 ho => ?_
    match o, ho with
    | .ok (.ret u), ⟨v, H2, os, bare, un, ok2, rv, q⟩ =>
      have q2 : v = .bl true := q
      subst q2
      have ru : u = Value.bool true := rv
      subst ru
      have grown : ∀ p ∈ tabCs K, ∃ more : Array Value, s2.heap.get? p.2 = some { cls := .none, data := .fields more } := fun p hp => by
        obtain ⟨more, z⟩ := un.tbls p.2 #[] (gr.ts p hp)
        exact ⟨_, ok2 p.2 _ z⟩
      have rest : ∀ b ob, b ∉ (tabCs K).map (·.2) → s₁.heap.get? b = some ob → s2.heap.get? b = some ob := fun b ob nb e => by
        rcases gr.on b with z | z | ⟨o1, xs, z⟩
        · exact un.keep b ob e z (fun y => nomatch y) (fun y => nomatch y)
        · exact absurd z nb
        · have y := (ok2 b _ (un.frzs b o1 _ z)).1
          have y0 := (ok b _ z).1
          rw [y0] at e
          cases e
          exact y
      refine ⟨rfl, ⟨fun b ob e => ?_, fun b ob e => ?_⟩, os, bare⟩
      · by_cases nb : b ∈ (tabCs K).map (·.2)
        · obtain ⟨p, hp, rfl⟩ := List.mem_map.mp nb
          obtain ⟨more, hm⟩ := grown p hp
          rw [hTb.e p hp] at e
          cases e
          exact .inr (.inl ⟨((hTb.c p hp).tab (hTb.e p hp)).isCodeTable, rfl, #[], more, rfl, by rw [Array.empty_append]; exact hm⟩)
        · exact .inl (rest b ob nb e)
      · by_cases nb : b ∈ (tabCs K).map (·.2)
        · obtain ⟨p, hp, rfl⟩ := List.mem_map.mp nb
          obtain ⟨more, hm⟩ := grown p hp
          exact ⟨_, hm⟩
        · exact ⟨ob, rest b ob nb e⟩
  have memT : ∀ p ∈ tabCs K, p.2 ∈ (tabCs K).map (·.2) := fun p hp => List.mem_map.mpr ⟨p, hp, rfl⟩
  by_cases hk : K.lookup a = none
  · refine go (fun b => if b = a then some (.frz { cls := .type "list", data := .seq vs.toArray } (.lst (ns.map V.int))) else if b ∈ (tabCs K).map (·.2) then some (.tbl #[]) else none) ⟨fun b => ?_, fun p hp => ?_, fun b z => ?_, fun _ => hk⟩ (.inl (.inr ⟨_, if_pos rfl⟩)) fun b u z => ?_
    · by_cases n : b = a
      · exact .inr (.inr ⟨_, _, if_pos n⟩)
      · by_cases m : b ∈ (tabCs K).map (·.2)
        · exact .inr (.inl m)
        · exact .inl ((if_neg n).trans (if_neg m))
    · exact (if_neg (fun z => aT (by rw [← z]; exact memT p hp))).trans (if_pos (memT p hp))
    · by_cases n : b = a
      · exact .inl n
      · by_cases m : b ∈ (tabCs K).map (·.2)
        · exact .inr m
        · exact absurd ((if_neg n).trans (if_neg m)) z
    · dsimp only at z
      by_cases n : b = a
      · rw [if_pos n] at z
        cases z
        rw [n]
        exact ⟨ha, by simpa using hl, vs, _, rel, ha⟩
      · rw [if_neg n] at z
        by_cases m : b ∈ (tabCs K).map (·.2)
        · rw [if_pos m] at z
          cases z
          exact tab b m
        · rw [if_neg m] at z
          cases z
  · obtain ⟨o, ho⟩ := Option.ne_none_iff_exists'.mp hk
    have e := KX a o ho
    rw [ha] at e
    cases e
    refine go (fun b => if b ∈ (tabCs K).map (·.2) then some (.tbl #[]) else none) ⟨fun b => ?_, fun p hp => if_pos (memT p hp), fun b z => ?_, fun z => absurd (if_neg aT) z⟩ (.inr ⟨_, vs.toArray, _, ho, rfl, rfl, rfl, by rw [List.size_toArray, hi.length]; exact hl, by simpa using rel⟩) fun b u z => ?_
    · by_cases m : b ∈ (tabCs K).map (·.2)
      · exact .inr (.inl m)
      · exact .inl (if_neg m)
    · by_cases m : b ∈ (tabCs K).map (·.2)
      · exact .inr m
      · exact absurd (if_neg m) z
    · dsimp only at z
      by_cases m : b ∈ (tabCs K).map (·.2)
      · rw [if_pos m] at z
        cases z
        exact tab b m
      · rw [if_neg m] at z
        cases z
/-- the law's promise at the heap behind the top -/
theorem law_callG {P : Program} {w : World} {K : PySem.W.Frag} {mg mb : Str → Option Value} {k : Nat} {fa a : Addr} {fd : FuncData} {x : Str} {s₁ : Shared} {vs : List Value} {ns : List Int}
    (KX : K.In s₁.heap) (hns : s₁.heap.Ns mainGlobals mg) (hb : s₁.heap.Ns builtinsNs mb) (hbb : ∀ y : Str, y ≠ "__name__" → mb y = bootBuiltins y) (hlim : s₁.heap.NoLimit) (hg : s₁.gens = #[]) (hTb : TabH K s₁.heap)
    (hbm : ∃ (bm : Addr) (ob : Obj), mg "__builtins__" = some (.ref bm) ∧ bm ≠ builtinsNs ∧ s₁.heap.get? bm = some ob ∧ ob.cls = .type "module" ∧ ob.dict = some builtinsNs ∧ ob.data = .plain)
    (ha : s₁.heap.get? a = some { cls := .type "list", data := .seq vs.toArray }) (hi : IntsAre vs ns) (hl : ns.length ≤ 63) (hbits : ∀ z ∈ ns, Builtin.Int.intBits z ≤ 1048576) (hr : RoomG k callerA)
    (F : ∀ base : Heap, K.In base → base.Ns mainGlobals mg → TabsB K mg base → FnD P w K mg base CX0 k fa fd [x] spLaw) (hbind : ∀ (s : Shared) (u : Value), BindsTo s fd ⟨[u], []⟩ [(x, u)]) :
    codeAny (model P w) callerA (.call (.ref fa) ⟨[.ref a], []⟩) (fun r s' => r = .ok (.ret (.bool true)) ∧ OldK s₁.heap s'.heap ∧ s'.os = s₁.os ∧ AllBare s'.gens) s₁ := by
  refine Dl.law_coreG KX hns hb hbb hlim hg hTb hbm ha hi (Nat.le_trans hl (by decide)) fun base H b1 b2 b3 e0 hO hT hS => ?_
  exact (F base b1 b2 b3).run callerA [] s₁ H ⟨[.ref a], []⟩ [.ref a] [.ref a] (fun v _ => v = .bl true) (fun _ _ _ => False) hr e0 (hbind s₁ (.ref a)) (.cons rfl .nil) (law_hsp hl hbits hO hT hS)
theorem law_walk {l : PySem.W.OpenLaw} {q : Program} {loose : List Str} {XP : (Str → Option Value) → Heap → Prop} {YP : World → Heap → Prop} {d : DefRec} {K : Params → PySem.W.Frag} {k : Nat} {x : Str} (hn : l.most = some 63) (hdf : d.params.defaults = []) (hr : Room k callerA)
    (hY : ∀ (w : World) (h : Heap), YP w h → (K w.params).In h) (hK : ∀ w : World, PySem.W.noTabs (K w.params) = true)
    (hD : ∀ w : World, ∀ x ∈ lamNames, ∀ cp, PySem.W.tabIn (K w.params) x = some cp → ∃ d, (recsOf q).find? (fun e => e.name == x) = some d)
    (F : ∀ (w : World) (mg : Str → Option Value) (fa : Addr) (h : Heap), (K w.params).In h → h.Ns mainGlobals mg → mg d.name = some (.ref fa) →
      ∃ fd : FuncData, (∀ (s : Shared) (u : Value), BindsTo s fd ⟨[u], []⟩ [(x, u)]) ∧ ∀ base : Heap, (K w.params).In base → base.Ns mainGlobals mg → TabsB (K w.params) mg base → FnD l.prog w (K w.params) mg base CX0 k fa fd [x] spLaw) :
    PySem.W.WalkO q loose XP YP l.row.toRowW d [] (fun f vs => PySem.call f vs) := by
  refine Att.attach_callB hn hdf ?_
  intro w s₀ s₁ mg mb fa o pm cd doc a vs ns G Y ho hd hcd hmg hobj hints hlen hbits hg
  have KX := hY w _ Y
  obtain ⟨fd, hb, hF⟩ := F w mg fa _ KX G.T.g hmg
  have tb : ∀ p ∈ tabCs (K w.params), PySem.W.CodeHd s₁.heap p.1 p.2 ∧ s₁.heap.get? p.2 = some (PySem.W.tabObj #[]) := fun p hp => by
    obtain ⟨x, hx, e⟩ := List.mem_filterMap.mp hp
    obtain ⟨d, hd⟩ := hD w x hx p e
    exact PySem.W.tab_of G.T KX hd e
  have hTb : TabH (K w.params) s₁.heap := ⟨fun p hp => (tb p hp).2, fun p hp => ?_, fun p hp => (tb p hp).1⟩
  · exact law_callG KX G.T.g G.T.b G.T.builtins G.T.nolimit hg hTb G.T.bmain hobj hints hlen hbits ⟨hr, rfl⟩ hF hb
  · cases e : (K w.params).lookup p.2 with
    | none => rfl
    | some o =>
      have e2 := KX _ _ e
      rw [(tb p hp).2] at e2
      cases e2
      have h2 := List.all_eq_true.mp (hK w) (p.2, PySem.W.tabObj #[]) (PySem.W.mem_of_lookupK e)
      exact absurd (show false = true from h2) Bool.false_ne_true
end Dl
set_option Elab.async false
set_option linter.all false
set_option autoImplicit false
set_option maxRecDepth 100000
set_option maxHeartbeats 4000000
namespace Dl
open PySem PySem.Spec PyProof.Rows L2
section
variable {pos p : Pos} {e tg : Expr} {te : ED}
theorem itok_str {K : PySem.W.Frag} {B : List Addr} {H : Hp} {A : List Addr} {s : Sto} {x : Str} : ItOk K B (Its x) (signsD x) noG H A s := by
  intro B' H' A' s' R e p hg i
  have hlen : (signsD x).length = x.cps.size := by simp [signsD]
  refine ⟨fun d hi => ?_, fun hi => show x.cps.size ≤ i by rw [← hlen]; exact hi⟩
  have hn : i < x.cps.size := by
    have := (List.getElem?_eq_some_iff.mp hi).1
    rwa [hlen] at this
  obtain ⟨c, hc⟩ : ∃ c, x.cps[i]? = some c := ⟨_, Array.getElem?_eq_getElem hn⟩
  have hd : d = .str ⟨#[c]⟩ := by
    simp only [signsD, List.getElem?_map, Array.getElem?_toList, hc, Option.map_some] at hi
    exact (Option.some.inj hi).symm
  refine ⟨hn, fun v H2 ⟨eH, c', hc', hx⟩ => ?_⟩
  rw [hc] at hc'; cases hc'
  subst eH hx hd
  exact ⟨R, .refl, .str _ (by show 1 ≤ sizeLine; decide)⟩
theorem fm_congr {α β : Type} {f g : α → Option β} : ∀ {l : List α}, (∀ a ∈ l, f a = g a) → l.filterMap f = l.filterMap g
  | [], _ => rfl
  | a :: l, h => by
    rw [List.filterMap_cons, List.filterMap_cons, h a List.mem_cons_self, fm_congr fun b hb => h b (List.mem_cons_of_mem _ hb)]
def revF (s : Sto) (x : D) : Option D := match x with
  | .tup xs => some (.tup xs.reverse)
  | x => (seqL s x).map fun xs => .lst xs.reverse
theorem rep_toList (a : Array Nat) : ∀ (n : Nat) (acc : Array Nat), ((List.replicate n a).foldl (· ++ ·) acc).toList = acc.toList ++ (List.replicate n a.toList).flatten
  | 0, acc => by simp
  | n + 1, acc => by
    rw [List.replicate_succ, List.foldl_cons, rep_toList a n, List.replicate_succ, List.flatten_cons, Array.toList_append, List.append_assoc]
def repS (a : Str) (n : Nat) : Str := ⟨(List.replicate n a.cps.toList).flatten.toArray⟩
theorem repS_length (a : Str) (n : Nat) : (repS a n).length = n * a.length := by
  show (List.replicate n a.cps.toList).flatten.toArray.size = _
  rw [List.size_toArray, List.length_flatten]
  simp [Str.length]
def mulS (_ : Sto) (x y : D) : Option D := match x, y with
  | .str a, .int n => if n.toNat * a.length ≤ 100000 ∧ a.length ≤ 100000 ∧ -1000000 ≤ n ∧ n ≤ 1000000 then some (.str (repS a n.toNat)) else none
  | _, _ => none
theorem op_mulS {X : Cx} : OpR X (binaryOp .Mult) (fun x y H Q => ∃ a n, x = .str a ∧ y = .int n ∧ (n.toNat * a.length ≤ 100000 ∧ a.length ≤ 100000 ∧ -1000000 ≤ n ∧ n ≤ 1000000) ∧ Q (.str (repS a n.toNat)) H) := by
  intro pins s σ H x y v u Q I rx ry h
  obtain ⟨a, n, rfl, rfl, ⟨h1, h2, h3, h4⟩, q⟩ := h
  obtain ⟨t, rfl⟩ := rx
  obtain ⟨t', rfl⟩ := ry
  refine PySem.P.mul_str ?_ (fun g1 g2 => ?_) (fun g1 g2 => ?_) ?_
  · rw [decide_eq_false (by omega), decide_eq_false (by omega)]; rfl
  · intro z
    have e : (2 ^ 63 - 1 : Int) / 1000000 ≤ (2 ^ 63 - 1) / n := Int.le_ediv_of_mul_le (by omega) (Int.le_trans (Int.mul_le_mul_of_nonneg_left h4 (by decide)) (by decide))
    have e2 : (9223372036854 : Int) = (2 ^ 63 - 1) / 1000000 := by decide
    omega
  · refine decide_eq_false fun z => ?_
    have : sizeLine = 16777216 := sizeLine_eq
    rw [Nat.mul_comm] at h1
    omega
  · have key : ∀ t2 k, EP X pins σ Q (.str (repS a n.toNat) t2) { s with toks := k } := fun t2 k => ⟨.str (repS a n.toNat), H, I.tok _, ⟨_, rfl⟩, q⟩
    by_cases c1 : n < 1
    · rw [if_pos c1]
      have e : Str.empty = repS a n.toNat := by
        have : n.toNat = 0 := by omega
        rw [this]; rfl
      refine ⟨by decide, ?_⟩
      rw [e]
      exact key _ _
    · rw [if_neg c1]
      by_cases c2 : (n == 1 || a.length == 0) = true
      · rw [if_pos c2]
        have e : a = repS a n.toNat := by
          have c3 := Bool.or_eq_true_iff.mp c2
          have ha : a = ⟨a.cps.toList.toArray⟩ := by simp
          rcases c3 with c3 | c3
          · have : n.toNat = 1 := by have := eq_of_beq c3; omega
            rw [this]
            show a = ⟨(List.replicate 1 a.cps.toList).flatten.toArray⟩
            simp
          · have hz : a.cps.toList = [] := by
              have := eq_of_beq c3
              have h0 : a.cps.size = 0 := this
              rw [← Array.length_toList] at h0
              exact List.eq_nil_of_length_eq_zero h0
            have hb : ∀ m : Nat, (List.replicate m ([] : List Nat)).flatten = [] := fun m => by
              induction m with
              | zero => rfl
              | succ m ih => rw [List.replicate_succ, List.flatten_cons, ih]; rfl
            show a = ⟨(List.replicate n.toNat a.cps.toList).flatten.toArray⟩
            rw [hz, hb]
            rw [ha, hz]
        rw [e]
        exact key _ _
      · rw [if_neg c2]
        have e : (⟨(List.replicate n.toNat a.cps).foldl (· ++ ·) #[]⟩ : Str) = repS a n.toNat := by
          have := rep_toList a.cps n.toNat #[]
          unfold repS
          congr 1
          apply Array.ext'
          rw [this]
          simp
        rw [e]
        refine ⟨?_, key _ _⟩
        show (repS a n.toNat).length ≤ sizeLine
        rw [repS_length, sizeLine_eq]
        omega
theorem opx_mulS {X : Cx} : OpX X (binaryOp .Mult) (oF mulS) := opx_of op_mulS fun x y s v w H A B Q R dv dw ⟨z, e, q⟩ => by
  unfold mulS at e
  split at e
  · split at e
    · rename_i hc
      cases e
      cases dv
      cases dw
      refine ⟨_, _, rfl, rfl, hc, q.here R (.str _ ?_)⟩
      rw [repS_length]
      have : sizeLine = 16777216 := sizeLine_eq
      omega
    · cases e
  · cases e
theorem opx_mul {X : Cx} : OpX X (binaryOp .Mult) (oOr (oIIc MulOk fun i j => .int (i * j)) (oF mulS)) := opx_mul_ii.or opx_mulS
end
end Dl
set_option Elab.async false
set_option linter.all false
set_option autoImplicit false
set_option maxRecDepth 100000
set_option maxHeartbeats 4000000
namespace Dl
open PySem PySem.Spec PyProof.Rows L2
section
variable {pos p : Pos} {e tg : Expr} {te : ED}
def iAny (K : PySem.W.Frag) (tl : TE) : TI := fun σ H R => tl σ H fun x H1 => (∃ a, x = .ref a ∧ (∃ xs, SqL K H1 a xs) ∧ R (Itl K a) H1) ∨ (∃ a, x = .ref a ∧ (∃ xs, SqT K H1 a xs) ∧ R (Itt K a) H1) ∨ ∃ z, x = .str z ∧ R (Its z) H1
theorem pi_any {X : Cx} {tl : TE} (hl : PE X e tl) : PI X tg e (iAny X.K tl) := by
  refine ⟨fun pins s σ H R I h => ?_⟩
  refine thn (hl.run pins s σ H _ I h) fun v s1 ⟨x, H1, I1, r1, q1⟩ => ?_
  rcases q1 with ⟨a, ex, ⟨xs, hq⟩, q⟩ | ⟨a, ex, ⟨xs, hq⟩, q⟩ | ⟨z, ex, q⟩
  · subst ex
    cases r1
    obtain ⟨its, rv, p, hz⟩ := I1.list hq
    refine wpAny_pyIter_list p.isList ?_
    refine ⟨s1.heap.objs.size, [s1.heap.objs.size], _, _, H1, rfl, I1.kept (t' := s1.toks) fun b o e => Heap.get?_push_of_some _ e, turn_list a _, ⟨_, Heap.get?_push_size _ rfl, rfl, rfl⟩, fun b hb => ?_, q⟩
    have e : b = s1.heap.objs.size := by simpa using hb
    subst e
    exact I1.fpOk (Nat.le_refl _) (I1.hok.fresh (Nat.le_refl _))
  · subst ex
    cases r1
    obtain ⟨its, rv, p, hz⟩ := I1.tuple hq
    refine wpAny_pyIter_tuple (show s1.heap.IsTuple a its.toArray from p) ?_
    refine ⟨s1.heap.objs.size, [s1.heap.objs.size], _, _, H1, rfl, I1.kept (t' := s1.toks) fun b o e => Heap.get?_push_of_some _ e, turn_tuple a _, ⟨_, Heap.get?_push_size _ rfl, rfl, rfl⟩, fun b hb => ?_, q⟩
    have e : b = s1.heap.objs.size := by simpa using hb
    subst e
    exact I1.fpOk (Nat.le_refl _) (I1.hok.fresh (Nat.le_refl _))
  · subst ex
    obtain ⟨t, rfl⟩ := r1
    cases ha : z.cps.all (· < 128)
    · exact wpAny_pyIter_wide ha (pi_one (tk := s1.toks) I1 _ (turn_str _ z t "str_iterator" (.inr rfl)) ⟨_, Heap.get?_push_size _ rfl, rfl, rfl⟩ q)
    · exact wpAny_pyIter_ascii ha (pi_one (tk := s1.toks) I1 _ (turn_str _ z t "str_ascii_iterator" (.inl rfl)) ⟨_, Heap.get?_push_size _ rfl, rfl, rfl⟩ q)
/-- what x walks: its items; what must stay -/
def isW (s : Sto) (x : D) (ds : List D) (g : Sto → Prop) : Prop := isL s x ds g ∨ (x = .tup ds ∧ g = noG) ∨ ∃ z, x = .str z ∧ ds = signsD z ∧ g = noG
def iW (te : ED) : ID := fun env s R => te env s fun x s1 => ∃ ds g, isW s1 x ds g ∧ R ds g s1
theorem mono_iW (me : Mono te) : MonoI (iW te) := fun _ _ _ _ f h => me _ _ _ _ (fun _ _ ⟨ds, g, e, q⟩ => ⟨ds, g, e, f _ _ _ q⟩) h
theorem pid_any {X : DX} (he : PD X e te) : PID X tg e (iW te) :=
  ⟨pi_imp (pi_any he.pe) fun σ H R ⟨env, s, A, B, w, h⟩ => rdE_go he.mono w h fun x s1 v H1 A1 ⟨ds, g, hx, q⟩ w1 e1 dv => by
    rcases hx with hx | ⟨rfl, rfl⟩ | ⟨z, rfl, rfl, rfl⟩
    · obtain ⟨a, vs, ea, hs, hd, ok⟩ := isL_rd w1.rs dv hx
      exact .inl ⟨a, ea, ⟨vs, hs⟩, q _ _ _ w1.rs e1 ok⟩
    · cases dv with
      | tup hs hd => exact .inr (.inl ⟨_, rfl, ⟨_, sqT_fz hs⟩, q _ _ _ w1.rs e1 (itok_tup (fun B' H' A' s' R' e p _ => sqT_fz (hs.same e)) hd)⟩)
    · cases dv
      exact .inr (.inr ⟨z, rfl, q _ _ _ w1.rs e1 itok_str⟩), mono_iW he.mono⟩
theorem isW_lst {s : Sto} {ds : List D} : isW s (.lst ds) ds noG := .inl (.inl ⟨rfl, rfl⟩)
theorem isW_ref {s : Sto} {l : Nat} {ds : List D} (h : s[l]? = some (some (.lst ds))) : isW s (.ref l) ds (fun s' => s'[l]? = some (some (.lst ds))) := .inl (.inr (.inr ⟨l, rfl, h, rfl⟩))
theorem isW_str {s : Sto} {z : Str} : isW s (.str z) (signsD z) noG := .inr (.inr ⟨z, rfl, rfl, rfl⟩)
theorem pd_gintE {X : DX} {x : Str} {i : Int} (hg : Gl X x) (hm : ∃ t, X.mg x = some (.int i t)) (hd : (x == ("__debug__" : Str)) = false := by decide) : PD X (.Name x pos) (dC (.int i)) := let ⟨_, h⟩ := hm; pd_gint hg h hd
theorem pd_gstrE {X : DX} {x z : Str} (hg : Gl X x) (hm : ∃ t, X.mg x = some (.str z t)) (hz : z.length ≤ sizeLine := by decide +kernel) (hd : (x == ("__debug__" : Str)) = false := by decide) : PD X (.Name x pos) (dC (.str z)) := let ⟨_, h⟩ := hm; pd_gstr hg h hz hd
end
/-- a def of the module that keeps its promise, by its name -/
def Kn (P : Program) (w : World) (K : PySem.W.Frag) (mg : Str → Option Value) (base : Heap) (x : Str) (k : Nat) (ps : List Str) (sp : SpD) : Prop :=
  ∃ (f : Addr) (fd : FuncData), FnD P w K mg base CX0 k f fd ps sp ∧ mg x = some (.ref f) ∧ PySem.W.keepIn K (.ref f) = true ∧ Binds K fd ps []
/-- a def of the module, by its name: where it stands -/
def At (K : PySem.W.Frag) (mg : Str → Option Value) (x : Str) (st : Stmt) (ps : List Str) : Prop :=
  ∃ (f : Addr) (fd : FuncData), Fun K x x st f fd ∧ mg x = some (.ref f) ∧ Binds K fd ps []
theorem Kn.mk {P : Program} {w : World} {K : PySem.W.Frag} {mg : Str → Option Value} {base : Heap} {x : Str} {st : Stmt} {N ps : List Str} {k : Nat} {sp : SpD} {tb : SD} (a : At K mg x st ps) (S : FnScope N ps (defScope st)) (mono : MonoSp sp)
    (len : ∀ ds s Q E, sp ds s Q E → ds.length = ps.length)
    (body : ∀ (f : Addr) (cdv : Value) (A : Around) (outer : List PySem.Env) (s : Shared) (H : Hp) (E : XK), RoomG k (A.deeper (envOfC x (defScope st) s.heap.objs.size f cdv)) → PSsD (dx0 (cxOf CX0 P w K mg base N x (defScope st) f cdv A outer s H E).nox) (defBody st) tb)
    (h : ∀ ds s Q E, sp ds s Q E → tb (endsOf Q) (envD N ds) s) : Kn P w K mg base x (k + 1) ps sp := by
  obtain ⟨f, fd, F, hm, hb⟩ := a
  exact ⟨f, fd, fnD F S mono len (body f) h, hm, F.kp, hb⟩
/-- .. that may raise -/
def KnX (P : Program) (w : World) (K : PySem.W.Frag) (mg : Str → Option Value) (base : Heap) (x : Str) (k : Nat) (ps : List Str) (sp : SpD) : Prop :=
  ∃ (f : Addr) (fd : FuncData), FnD P w K mg base (L2.CX P w) k f fd ps sp ∧ mg x = some (.ref f) ∧ PySem.W.keepIn K (.ref f) = true ∧ Binds K fd ps []
theorem KnX.mk {P : Program} {w : World} {K : PySem.W.Frag} {mg : Str → Option Value} {base : Heap} {x : Str} {st : Stmt} {N ps : List Str} {k : Nat} {sp : SpD} {tb : WXD → SD} (a : At K mg x st ps) (S : FnScope N ps (defScope st)) (mono : MonoSp sp)
    (len : ∀ ds s Q E, sp ds s Q E → ds.length = ps.length)
    (body : ∀ (f : Addr) (cdv : Value) (A : Around) (outer : List PySem.Env) (s : Shared) (H : Hp) (E : XK) (B0 A0 : List Addr) (s0 : Sto), RoomG k (A.deeper (envOfC x (defScope st) s.heap.objs.size f cdv)) →
      PSsD (dxR P w K mg base N x (defScope st) f cdv A outer s H E rfl B0 A0 s0) (defBody st) (tb fun y fs _ s' => PostX K mg B0 H A0 s0 E y fs s'))
    (h : ∀ ds s Q E, sp ds s Q E → tb (fun y fs _ s' => E y fs s') (endsOf Q) (envD N ds) s) : KnX P w K mg base x (k + 1) ps sp := by
  obtain ⟨f, fd, F, hm, hb⟩ := a
  exact ⟨f, fd, fnDX F S mono len (body f) h, hm, F.kp, hb⟩
def spNo : SpD := fun _ _ _ _ => False
theorem Kn.up {P : Program} {w : World} {K : PySem.W.Frag} {mg : Str → Option Value} {base : Heap} {x : Str} {ps : List Str} {j k : Nat} {sp : SpD} (c : Kn P w K mg base x j ps sp) (h : j ≤ k) : Kn P w K mg base x k ps sp := by
  obtain ⟨f, fd, F, h1, h2, h3⟩ := c
  exact ⟨f, fd, F.up h, h1, h2, h3⟩
section
variable {pos p : Pos} {k : Nat} {ps : List Str} {sp : SpD} {x : Str} {e : Expr} {es : List Expr} {t : AD}
theorem pd_kn {X : DX} (c : Kn X.prog X.w X.K X.mg X.base x k ps sp) (hr : RoomG k X.A) (hg : Gl X x) (ha : PAD X (e :: es) t)
    (h1 : starEach (e :: es) X.env = (false, eval e X.env) :: starEach es X.env := by rfl) (hpl : (backTo pos (starEach es X.env)).any (·.1) = false := by rfl) (hdb : (x == ("__debug__" : Str)) = false := by decide) : PD X (.Call (.Name x p) (e :: es) [] pos) (dCall sp [] t) := by
  obtain ⟨f, fd, F, hm, hk, hb⟩ := c
  exact pd_call F hr hg hm hk hb .nil (fun _ _ => .nil) ha h1 hpl hdb
end
abbrev oMul : O2 := oOr (oIIc MulOk fun i j => .int (i * j)) (oF mulS)
abbrev oMod : O2 := oIIc (fun _ j => 0 < j) fun i j => .int (i % j)
abbrev oDiv : O2 := oIIc DivOk fun i j => .int (i / j)
abbrev oPow : O2 := oIIc PowOk fun i j => .int (i ^ j.toNat)
section
variable {env : En} {s : Sto} {Q : D → Sto → Prop} {QT : Bool → Sto → Prop} {QA : List D → Sto → Prop} {E : EndsD} {t u c : TD} {a b : ED} {tr : AD} {d : D} {i : Nat} {o o' : O2} {ta tb tc : ED} {S S' : SD} {f : Sto → D → Option D} {g : Sto → List D → Option D}
@[simp] theorem r_var : dVar i env s Q = ∃ d, env[i]? = some (some d) ∧ Q d s := rfl
@[simp] theorem r_c : dC d env s Q = Q d s := rfl
@[simp] theorem r_bin : dBin o ta tb env s Q = ta env s fun x s1 => tb env s1 fun y s2 => o x y s2 Q := rfl
@[simp] theorem r_oF {f : Sto → D → D → Option D} {x y : D} : oF f x y s Q = ∃ z, f s x y = some z ∧ Q z s := rfl
@[simp] theorem r_un : dUn f ta env s Q = ta env s fun x s1 => ∃ z, f s1 x = some z ∧ Q z s1 := rfl
@[simp] theorem r_cb : dCB g tr env s Q = tr env s fun xs s1 => ∃ z, g s1 xs = some z ∧ Q z s1 := rfl
@[simp] theorem r_test : dTest ta env s QT = ta env s fun x s1 => ∃ k, x = .bl k ∧ QT k s1 := rfl
@[simp] theorem r_and : dAnd t u env s QT = t env s fun k s1 => if k = true then u env s1 QT else QT false s1 := rfl
@[simp] theorem r_or : dOr t u env s QT = t env s fun k s1 => if k = true then QT true s1 else u env s1 QT := rfl
@[simp] theorem r_not : dNot t env s QT = t env s fun k s1 => QT (!k) s1 := rfl
@[simp] theorem r_andV : dAndV ta tb env s Q = ta env s fun x s1 => ∃ k, x = .bl k ∧ if k = true then tb env s1 Q else Q (.bl false) s1 := rfl
@[simp] theorem r_notV : dNotV ta env s Q = ta env s fun x s1 => ∃ k, x = .bl k ∧ Q (.bl (!k)) s1 := rfl
@[simp] theorem r_ifE : dIf t ta tb env s Q = t env s fun k s1 => if k = true then ta env s1 Q else tb env s1 Q := rfl
@[simp] theorem r_chain : dChain o o' ta tb tc env s Q = ta env s fun x s1 => tb env s1 fun y s2 => o x y s2 fun z s3 => ∃ k, z = .bl k ∧ if k = true then tc env s3 fun u s4 => o' y u s4 Q else Q (.bl false) s3 := rfl
@[simp] theorem r_nil : dNil env s QA = QA [] s := rfl
@[simp] theorem r_cons : dCons ta tr env s QA = ta env s fun x s1 => tr env s1 fun xs s2 => QA (x :: xs) s2 := rfl
@[simp] theorem r_tup : dTup tr env s Q = tr env s fun xs s1 => xs.length ≤ sizeLine ∧ Q (.tup xs) s1 := rfl
@[simp] theorem r_lst : dLst tr env s Q = tr env s fun xs s1 => xs.length ≤ sizeLine ∧ Q (.lst xs) s1 := rfl
@[simp] theorem r_new : dNew tr env s Q = tr env s fun xs s1 => xs.length ≤ sizeLine ∧ Q (.ref s1.length) (s1 ++ [some (.lst xs)]) := rfl
@[simp] theorem r_frz : dFrz ta env s Q = ta env s fun x s1 => ∃ l xs, x = .ref l ∧ s1[l]? = some (some (.lst xs)) ∧ Q (.lst xs) (s1.set l none) := rfl
@[simp] theorem r_call {sp : SpD} {dds : List D} : dCall sp dds tr env s Q = tr env s fun xs s1 => sp (xs ++ dds) s1 Q fun _ _ _ => False := rfl
@[simp] theorem r_mt {f : List D → List D → Option (D × List D)} : dMt f ta tr env s Q = ta env s fun o s1 => ∃ l ds0, o = .ref l ∧ s1[l]? = some (some (.lst ds0)) ∧ tr env s1 fun xs s2 => ∃ ds z ds', s2[l]? = some (some (.lst ds)) ∧ f ds xs = some (z, ds') ∧ Q z (s2.set l (some (.lst ds'))) := rfl
@[simp] theorem r_join : dJoin ta tb env s Q = ta env s fun o s1 => ∃ a, o = .str a ∧ tb env s1 fun x s2 => ∃ ds ys, seqA s2 x = some ds ∧ strsOf ds = some ys ∧ (ys.map (·.length)).sum + ys.length * a.length ≤ 16777216 ∧ Q (.str (Txt.join a ys)) s2 := rfl
@[simp] theorem r_next : dNext E env s = E.nx env s := rfl
@[simp] theorem r_seq : dSeq S S' E env s = S { E with nx := S' E } env s := rfl
@[simp] theorem r_ret : dRet ta E env s = ta env s E.rt := rfl
@[simp] theorem r_drop : dDrop ta E env s = ta env s fun _ s1 => E.nx env s1 := rfl
@[simp] theorem r_if : dIfS c S S' E env s = c env s fun b s1 => if b = true then S E env s1 else S' E env s1 := rfl
@[simp] theorem r_asg {g : GD} : dAsg ta g E env s = ta env s fun d s1 => g d env s1 E.nx := rfl
@[simp] theorem r_gN {P : En → Sto → Prop} : gN i d env s P = P (env.set i (some d)) s := rfl
@[simp] theorem r_gTs {is : List Nat} {P : En → Sto → Prop} : gTs is d env s P = ∃ ds, d = .tup ds ∧ ds.length = is.length ∧ P (setE env is ds) s := rfl
@[simp] theorem r_gIx {P : En → Sto → Prop} : gIx ta tb d env s P = ta env s fun o s1 => tb env s1 fun i s2 => ∃ l xs k j, o = .ref l ∧ i = .int k ∧ s2[l]? = some (some (.lst xs)) ∧ ixN xs.length k = some j ∧ P env (s2.set l (some (.lst (xs.set j d)))) := rfl
@[simp] theorem r_aug {o : O2} : dAug i o ta E env s = ∃ x, env[i]? = some (some x) ∧ ta env s fun y s1 => o x y s1 fun z s2 => E.nx (env.set i (some z)) s2 := rfl
@[simp] theorem r_sl {tl th : OD} : dSl ta tl th env s Q = ta env s fun x s1 => tl env s1 fun lo s2 => th env s2 fun hi s3 => ∃ z, sliceF s3 x lo hi = some z ∧ Q z s3 := rfl
@[simp] theorem r_noP {P : Option Int → Sto → Prop} : dNoP env s P = P none s := rfl
@[simp] theorem r_p {P : Option Int → Sto → Prop} : dP ta env s P = ta env s fun x s1 => ∃ i, x = .int i ∧ P (some i) s1 := rfl
@[simp] theorem r_endsN {Q : D → Sto → Prop} : (endsOf Q).nx env s = Q .non s := rfl
@[simp] theorem r_endsR {Q : D → Sto → Prop} : (endsOf Q).rt = Q := rfl
@[simp] theorem r_setE0 {is : List Nat} : setE env is [] = env := by cases is <;> rfl
@[simp] theorem r_setE1 {is : List Nat} {ds : List D} : setE env (i :: is) (d :: ds) = setE (env.set i (some d)) is ds := rfl
end
end Dl
set_option Elab.async false
set_option linter.all false
set_option autoImplicit false
set_option maxRecDepth 100000
set_option maxHeartbeats 4000000
namespace Dl
open PySem PySem.Spec PyProof.Rows L2
section
variable {g : Sto → Prop} {tg : GD} {tt : TD} {te : ED} {env : En}
/-- a comprehension that changes nothing -/
theorem lcD_pure (p : D → Bool) (f : D → D) : ∀ {ds : List D} {s : Sto} {Q : List D → Sto → Prop}, g s →
    (∀ d ∈ ds, ∀ (k1 : D → Sto → Prop) (k0 : Sto → Prop), (p d = true → k1 (f d) s) → (p d = false → k0 s) → tg d env s fun env1 s1 => tt env1 s1 fun b s2 => if b = true then te env1 s2 k1 else k0 s2) →
    Q ((ds.filter p).map f) s → lcD g tg tt te env ds s Q
  | [], s, Q, hg, _, q => ⟨hg, q⟩
  | d :: ds, s, Q, hg, h, q => ⟨hg, h d List.mem_cons_self _ _ (fun hp => lcD_pure p f hg (fun d' hd' => h d' (List.mem_cons_of_mem _ hd')) (by rw [List.filter_cons, if_pos hp] at q; exact q))
      fun hp => lcD_pure p f hg (fun d' hd' => h d' (List.mem_cons_of_mem _ hd')) (by rw [List.filter_cons, if_neg (by rw [hp]; exact Bool.false_ne_true)] at q; exact q)⟩
/-- a comprehension, by a property of what is left and what is made -/
theorem lcD_run (I : List D → List D → Sto → Prop)
    (step : ∀ d rest acc s, I (d :: rest) acc s → ∀ (k1 : D → Sto → Prop) (k0 : Sto → Prop), (∀ y s', I rest (acc ++ [y]) s' → k1 y s') → (∀ s', I rest acc s' → k0 s') →
      g s ∧ tg d env s fun env1 s1 => tt env1 s1 fun b s2 => if b = true then te env1 s2 k1 else k0 s2) : ∀ {ds acc : List D} {s : Sto} {Q : List D → Sto → Prop}, I ds acc s → (∀ ys s', I [] (acc ++ ys) s' → g s' ∧ Q ys s') → lcD g tg tt te env ds s Q
  | [], acc, s, Q, h, done => done [] s (by rw [List.append_nil]; exact h)
  | d :: ds, acc, s, Q, h, done => step d ds acc s h _ _ (fun y s' h' => lcD_run I step h' fun ys s4 h4 => by
      have := done (y :: ys) s4 (by rw [List.append_assoc] at h4; exact h4)
      exact this) fun s' h' => lcD_run I step h' done
/-- a loop, by a property of what is left -/
theorem forD_run {tb : SD} {E : EndsD} (I : List D → En → Sto → Prop)
    (step : ∀ d rest env s, I (d :: rest) env s → ∀ (N : En → Sto → Prop), (∀ e s', I rest e s' → N e s') → g s ∧ tg d env s fun env1 s1 => tb ⟨N, E.rt, E.nx, N⟩ env1 s1)
    (done : ∀ env s, I [] env s → g s ∧ E.nx env s) : ∀ {ds : List D} {env : En} {s : Sto}, I ds env s → forD g tg tb E ds env s
  | [], env, s, h => done env s h
  | d :: ds, env, s, h => step d ds env s h _ fun e s' h' => forD_run I step done h'
end
theorem le_line {n : Nat} (h : n ≤ 1000000) : n ≤ sizeLine := Nat.le_trans h (by rw [sizeLine_eq]; decide)
theorem ll {n : Nat} (h : Nat.ble n 1000 = true := by rfl) : n ≤ sizeLine := le_line (Nat.le_trans (Nat.le_of_ble_eq_true h) (by decide))
theorem addl {s : Sto} {a b : List D} (h : a.length + b.length ≤ sizeLine) : addF s (.lst a) (.lst b) = some (.lst (a ++ b)) := by
  show (if a.length + b.length ≤ sizeLine then _ else _) = _
  rw [if_pos h]
theorem addt {s : Sto} {a b : List D} (h : a.length + b.length ≤ sizeLine) : addF s (.tup a) (.tup b) = some (.tup (a ++ b)) := by
  show (if a.length + b.length ≤ sizeLine then _ else _) = _
  rw [if_pos h]
theorem adds {s : Sto} {a b : Str} (h : a.length + b.length ≤ sizeLine) : addF s (.str a) (.str b) = some (.str (a ++ b)) := by
  show (if a.length + b.length ≤ sizeLine then _ else _) = _
  rw [if_pos h]
theorem ixN_in {n : Nat} {i : Int} (h0 : 0 ≤ i) (h1 : i < n) : ixN n i = some i.toNat := by
  unfold ixN
  rw [if_pos h0, if_pos h1]
theorem ixN_neg {n : Nat} {i : Int} (h0 : i < 0) (h1 : -(n : Int) ≤ i) : ixN n i = some (i + n).toNat := by
  unfold ixN
  rw [if_neg (by omega), if_pos h1]
theorem atI_in {α : Type} {xs : List α} {i : Int} (h0 : 0 ≤ i) (h1 : i < xs.length) : atI xs i = xs[i.toNat]? := by
  unfold atI
  rw [ixN_in h0 h1]
  rfl
theorem atI_mem {α : Type} {xs : List α} {i : Int} (h0 : 0 ≤ i) (h1 : i < xs.length) : ∃ x, atI xs i = some x ∧ x ∈ xs := by
  have h : i.toNat < xs.length := by omega
  exact ⟨xs[i.toNat], by rw [atI_in h0 h1]; exact List.getElem?_eq_getElem h, List.getElem_mem h⟩
theorem atI_last {α : Type} {xs : List α} (h : xs ≠ []) : atI xs (-1) = some (xs.getLast h) := by
  have hl : 0 < xs.length := List.length_pos_iff.mpr h
  unfold atI
  rw [ixN_neg (by decide) (by omega)]
  show xs[((-1 : Int) + xs.length).toNat]? = _
  have e : ((-1 : Int) + xs.length).toNat = xs.length - 1 := by omega
  rw [e, List.getLast_eq_getElem]
  exact List.getElem?_eq_getElem (by omega)
@[simp] theorem sIx_n (n d : Nat) : HT.sIx n d none = d := rfl
theorem sIx_some {n d : Nat} {i : Int} (h : 0 ≤ i) : HT.sIx n d (some i) = min i.toNat n := by
  obtain ⟨k, rfl⟩ : ∃ k : Nat, i = (k : Int) := ⟨i.toNat, by omega⟩
  rw [HT.sIx_nat]
  rfl
theorem cutD_to {α : Type} {xs : List α} {i : Int} (h : 0 ≤ i) : cutD xs none (some i) = xs.take i.toNat := by
  unfold cutD
  rw [sIx_n, sIx_some h, List.drop_zero, Nat.sub_zero]
  rw [Nat.min_def]
  split
  · rfl
  · rw [List.take_of_length_le (Nat.le_refl _), List.take_of_length_le (by omega)]
theorem cutD_mid {α : Type} {xs : List α} {i j : Int} (h : 0 ≤ i) (hj : 0 ≤ j) : cutD xs (some i) (some j) = (xs.take j.toNat).drop i.toNat := by
  unfold cutD
  rw [sIx_some h, sIx_some hj, List.drop_take]
  by_cases hi : i.toNat ≤ xs.length
  · rw [Nat.min_eq_left hi]
    by_cases h2 : j.toNat ≤ xs.length
    · rw [Nat.min_eq_left h2]
    · rw [Nat.min_eq_right (by omega)]
      rw [List.take_of_length_le (by rw [List.length_drop]; omega), List.take_of_length_le (by rw [List.length_drop]; omega)]
  · rw [Nat.min_eq_right (a := i.toNat) (b := xs.length) (by omega), List.drop_of_length_le (Nat.le_refl _), List.drop_of_length_le (i := i.toNat) (by omega)]
    simp
def big : Nat := 2 ^ 200
mutual
/-- plain data: each text, list, tuple at most n long, each int at most big + n -/
def szB (n : Nat) : D → Bool
  | .non => true
  | .bl _ => true
  | .int i => decide (i.natAbs ≤ big + n)
  | .str a => decide (a.length ≤ n)
  | .tup xs => decide (xs.length ≤ n) && szL n xs
  | .lst xs => decide (xs.length ≤ n) && szL n xs
  | .frl _ => false
  | .dk _ _ => true
  | .dt _ _ => true
  | .ref _ => false
  | .exc _ _ _ => false
def szL (n : Nat) : List D → Bool
  | [] => true
  | x :: xs => szB n x && szL n xs
end
theorem szL_iff {n : Nat} : ∀ {xs : List D}, szL n xs = true ↔ ∀ x ∈ xs, szB n x = true
  | [] => by simp [szL]
  | x :: xs => by
    rw [szL, Bool.and_eq_true, szL_iff (xs := xs)]
    simp
@[simp] theorem sz_tup {n : Nat} {xs : List D} : szB n (.tup xs) = true ↔ xs.length ≤ n ∧ ∀ x ∈ xs, szB n x = true := by rw [szB, Bool.and_eq_true, szL_iff, decide_eq_true_iff]
@[simp] theorem sz_lst {n : Nat} {xs : List D} : szB n (.lst xs) = true ↔ xs.length ≤ n ∧ ∀ x ∈ xs, szB n x = true := by rw [szB, Bool.and_eq_true, szL_iff, decide_eq_true_iff]
@[simp] theorem sz_str {n : Nat} {a : Str} : szB n (.str a) = true ↔ a.length ≤ n := by rw [szB, decide_eq_true_iff]
@[simp] theorem sz_int {n : Nat} {i : Int} : szB n (.int i) = true ↔ i.natAbs ≤ big + n := by rw [szB, decide_eq_true_iff]
@[simp] theorem sz_non {n : Nat} : szB n .non = true := rfl
@[simp] theorem sz_bl {n : Nat} {b : Bool} : szB n (.bl b) = true := rfl
@[simp] theorem sz_dk {n : Nat} {ks : List Key} {xs : List D} : szB n (.dk ks xs) = true := rfl
@[simp] theorem sz_frl {n : Nat} {xs : List D} : szB n (.frl xs) = false := rfl
@[simp] theorem sz_ref {n : Nat} {l : Nat} : szB n (.ref l) = false := rfl
mutual
theorem szB_mono {n m : Nat} (h : n ≤ m) : ∀ (x : D), szB n x = true → szB m x = true
  | .non, _ => rfl
  | .bl _, _ => rfl
  | .int i, q => by rw [sz_int] at q ⊢; omega
  | .str a, q => by rw [sz_str] at q ⊢; omega
  | .tup xs, q => by
    rw [szB, Bool.and_eq_true, decide_eq_true_iff] at q ⊢
    exact ⟨by omega, szL_mono h xs q.2⟩
  | .lst xs, q => by
    rw [szB, Bool.and_eq_true, decide_eq_true_iff] at q ⊢
    exact ⟨by omega, szL_mono h xs q.2⟩
  | .frl _, q => by cases q
  | .dk _ _, _ => rfl
  | .dt _ _, _ => rfl
  | .ref _, q => by cases q
  | .exc _ _ _, q => by cases q
theorem szL_mono {n m : Nat} (h : n ≤ m) : ∀ (xs : List D), szL n xs = true → szL m xs = true
  | [], _ => rfl
  | x :: xs, q => by
    rw [szL, Bool.and_eq_true] at q ⊢
    exact ⟨szB_mono h x q.1, szL_mono h xs q.2⟩
end
theorem powOk_of {a : Int} {j : Int} {m : Nat} (ha : Builtin.Int.intBits a ≤ m) (h2 : 2 ≤ j) (h : (m : Int) * j ≤ 134217728) : PowOk a j := ⟨h2, Int.le_trans (Int.mul_le_mul_of_nonneg_right (by exact_mod_cast ha) (by omega)) h⟩
theorem divOk_of {i j : Int} (h : 0 < j) (h2 : j < 2 ^ 200) : DivOk i j := by
  refine ⟨h, ?_⟩
  have : j.natAbs < 2 ^ 200 := by omega
  have := (Nat.log2_lt (by omega : j.natAbs ≠ 0)).mpr this
  omega
end Dl
namespace Dl
open PySem PySem.Spec PyProof.Rows L2
section
variable {s : Sto}
@[simp] theorem ty_non : tyName s .non = some "NoneType" := rfl
@[simp] theorem ty_bl {b : Bool} : tyName s (.bl b) = some "bool" := rfl
@[simp] theorem ty_int {i : Int} : tyName s (.int i) = some "int" := rfl
@[simp] theorem ty_str {a : Str} : tyName s (.str a) = some "str" := rfl
@[simp] theorem ty_tup {xs : List D} : tyName s (.tup xs) = some "tuple" := rfl
@[simp] theorem ty_lst {xs : List D} : tyName s (.lst xs) = some "list" := rfl
@[simp] theorem ty_dk {ks : List Key} {xs : List D} : tyName s (.dk ks xs) = some "dict" := rfl
@[simp] theorem ty_dt {ks : List (List Key)} {xs : List D} : tyName s (.dt ks xs) = some "dict" := rfl
@[simp] theorem sz_dt {n : Nat} {ks : List (List Key)} {xs : List D} : szB n (.dt ks xs) = true := rfl
@[simp] theorem lt_ii {i j : Int} : ltF s (.int i) (.int j) = some (.bl (decide (i < j))) := rfl
@[simp] theorem le_ii {i j : Int} : leF s (.int i) (.int j) = some (.bl (decide (i ≤ j))) := rfl
@[simp] theorem ge_ii {i j : Int} : geF s (.int i) (.int j) = some (.bl (decide (j ≤ i))) := rfl
@[simp] theorem gtB_ii {i j : Int} : gtBF s (.int i) (.int j) = some (.bl (decide (j < i))) := rfl
@[simp] theorem gtB_bi {k : Bool} {j : Int} : gtBF s (.bl k) (.int j) = some (.bl (decide (j < b2n k))) := rfl
@[simp] theorem add_ii {i j : Int} : addF s (.int i) (.int j) = some (.int (i + j)) := rfl
@[simp] theorem add_bi {k : Bool} {j : Int} : addF s (.bl k) (.int j) = some (.int (b2n k + j)) := rfl
@[simp] theorem add_ib {k : Bool} {j : Int} : addF s (.int j) (.bl k) = some (.int (j + b2n k)) := rfl
@[simp] theorem add_ss {a b : Str} : addF s (.str a) (.str b) = if a.length + b.length ≤ sizeLine then some (.str (a ++ b)) else none := rfl
@[simp] theorem add_tt {a b : List D} : addF s (.tup a) (.tup b) = if a.length + b.length ≤ sizeLine then some (.tup (a ++ b)) else none := rfl
@[simp] theorem add_ll {a b : List D} : addF s (.lst a) (.lst b) = if a.length + b.length ≤ sizeLine then some (.lst (a ++ b)) else none := rfl
@[simp] theorem sub_ii {i j : Int} : subF s (.int i) (.int j) = some (.int (i - j)) := rfl
@[simp] theorem sub_bi {k : Bool} {j : Int} : subF s (.bl k) (.int j) = some (.int (b2n k - j)) := rfl
@[simp] theorem sub_ib {k : Bool} {j : Int} : subF s (.int j) (.bl k) = some (.int (j - b2n k)) := rfl
@[simp] theorem neg_i {i : Int} : negF s (.int i) = some (.int (-i)) := rfl
@[simp] theorem idx_t {xs : List D} {i : Int} : idxF s (.tup xs) (.int i) = atI xs i := rfl
@[simp] theorem idx_l {xs : List D} {i : Int} : idxF s (.lst xs) (.int i) = atI xs i := rfl
@[simp] theorem idx_f {xs : List D} {i : Int} : idxF s (.frl xs) (.int i) = atI xs i := rfl
@[simp] theorem idx_s {z : Str} {i : Int} : idxF s (.str z) (.int i) = (atI z.cps.toList i).map fun c => .str ⟨#[c]⟩ := rfl
theorem idx_r {l : Nat} {xs : List D} {i : Int} (h : s[l]? = some (some (.lst xs))) : idxF s (.ref l) (.int i) = atI xs i := by
  show (match seqL s (.ref l) with | some xs => atI xs i | none => none) = _
  rw [seqL_ref h]
@[simp] theorem len_s {z : Str} : lenF s [.str z] = some (.int z.length) := rfl
@[simp] theorem len_t {xs : List D} : lenF s [.tup xs] = some (.int xs.length) := rfl
@[simp] theorem len_l {xs : List D} : lenF s [.lst xs] = some (.int xs.length) := rfl
@[simp] theorem len_f {xs : List D} : lenF s [.frl xs] = some (.int xs.length) := rfl
@[simp] theorem len_dk {ks : List Key} {xs : List D} : lenF s [.dk ks xs] = some (.int ks.length) := rfl
@[simp] theorem len_dt {ks : List (List Key)} {xs : List D} : lenF s [.dt ks xs] = some (.int ks.length) := rfl
@[simp] theorem min_ii {i j : Int} : min2F s [.int i, .int j] = some (.int (if j < i then j else i)) := rfl
@[simp] theorem max_ii {i j : Int} : max2F s [.int i, .int j] = some (.int (if j > i then j else i)) := rfl
@[simp] theorem int_i {i : Int} : intF s [.int i] = some (.int i) := rfl
@[simp] theorem int_b {k : Bool} : intF s [.bl k] = some (.int (b2n k)) := rfl
@[simp] theorem abs_i {i : Int} : absF s [.int i] = some (.int (if i < 0 then -i else i)) := rfl
@[simp] theorem all_l {bs : List Bool} : allF s [.lst (bs.map D.bl)] = some (.bl (bs.all id)) := by
  show (match seqL s (.lst (bs.map D.bl)) with | some ds => (blsOf ds).map fun (bs : List Bool) => D.bl (bs.all id) | none => none) = _
  rw [seqL_lst]
  show (blsOf (bs.map D.bl)).map _ = _
  rw [blsOf_map]
  rfl
@[simp] theorem list_t {xs : List D} : listF s [.tup xs] = some (.lst xs) := rfl
@[simp] theorem list_l {xs : List D} : listF s [.lst xs] = some (.lst xs) := rfl
@[simp] theorem tuple_t {xs : List D} : tupleF s [.tup xs] = some (.tup xs) := rfl
@[simp] theorem tuple_l {xs : List D} : tupleF s [.lst xs] = some (.tup xs) := rfl
@[simp] theorem seqA_t {xs : List D} : seqA s (.tup xs) = some xs := rfl
@[simp] theorem seqA_l {xs : List D} : seqA s (.lst xs) = some xs := rfl
@[simp] theorem rev_t {xs : List D} : revF s (.tup xs) = some (.tup xs.reverse) := rfl
@[simp] theorem rev_l {xs : List D} : revF s (.lst xs) = some (.lst xs.reverse) := rfl
@[simp] theorem slice_t {xs : List D} {i j : Option Int} : sliceF s (.tup xs) i j = some (.tup (cutD xs i j)) := rfl
@[simp] theorem slice_l {xs : List D} {i j : Option Int} : sliceF s (.lst xs) i j = some (.lst (cutD xs i j)) := rfl
@[simp] theorem slice_f {xs : List D} {i j : Option Int} : sliceF s (.frl xs) i j = some (.lst (cutD xs i j)) := rfl
@[simp] theorem slice_s {z : Str} {i j : Option Int} : sliceF s (.str z) i j = some (.str ⟨(cutD z.cps.toList i j).toArray⟩) := rfl
@[simp] theorem b2n_t : b2n true = 1 := rfl
@[simp] theorem b2n_f : b2n false = 0 := rfl
@[simp] theorem drf_non : drf s .non = .non := rfl
@[simp] theorem drf_bl {b : Bool} : drf s (.bl b) = .bl b := rfl
@[simp] theorem drf_int {i : Int} : drf s (.int i) = .int i := rfl
@[simp] theorem drf_str {z : Str} : drf s (.str z) = .str z := rfl
@[simp] theorem drf_tup {xs : List D} : drf s (.tup xs) = .tup xs := rfl
@[simp] theorem drf_lst {xs : List D} : drf s (.lst xs) = .lst xs := rfl
@[simp] theorem iIIc {c : Int → Int → Prop} {g : Int → Int → D} {i j : Int} {Q : D → Sto → Prop} : oIIc c g (.int i) (.int j) s Q = (c i j ∧ Q (g i j) s) := by
  apply propext
  constructor
  · rintro ⟨a, b, e1, e2, h⟩
    cases e1; cases e2
    exact h
  · intro h
    exact ⟨i, j, rfl, rfl, h⟩
theorem eq_ii {i j : Int} : eqF s (.int i) (.int j) = some (.bl (i == j)) := rfl
theorem ne_ii {i j : Int} : neF s (.int i) (.int j) = some (.bl (!(i == j))) := rfl
theorem eq_ss {i j : Str} : eqF s (.str i) (.str j) = some (.bl (i == j)) := rfl
theorem ne_ss {i j : Str} : neF s (.str i) (.str j) = some (.bl (!(i == j))) := rfl
theorem eq_l0 {xs : List D} : eqF s (.lst xs) (.lst []) = some (.bl (decide (xs = []))) := by
  cases xs <;> rfl
theorem ne_l0 {xs : List D} : neF s (.lst xs) (.lst []) = some (.bl (!decide (xs = []))) := by
  cases xs <;> rfl
end
section
/-- all the signs of a text in a row of signs -/
def sgnIn (r z : Str) : Bool := z.cps.toList.all fun c => decide (c ∈ r.cps.toList)
theorem signsD_mem {z : Str} {d : D} (h : d ∈ signsD z) : ∃ c, d = .str ⟨#[c]⟩ ∧ c ∈ z.cps.toList := by
  obtain ⟨c, hc, rfl⟩ := List.mem_map.mp h
  exact ⟨c, rfl, hc⟩
theorem signsD_length {z : Str} : (signsD z).length = z.length := by simp [signsD, Str.length]
def sgnOf : D → Nat
  | .str z => z.cps.getD 0 0
  | _ => 0
theorem all_signs {env : En} {s : Sto} {Q : D → Sto → Prop} {r z : Str} {i j : Nat} (hz : z.length ≤ sizeLine) (hi : env[i]? = some (some (.str z))) (hj : j < env.length) (q : Q (.bl (sgnIn r z)) s) :
    dCB allF (dCons (dLc (iW (dVar i)) (CT.g (.one j)) dYes (dBin (oOr (oInS id) (oIn id)) (dVar j) (dC (.str r))) [j]) dNil) env s Q := by
  refine ⟨_, hi, _, _, isW_str, by rw [signsD_length]; exact hz, ?_⟩
  refine lcD_pure (fun _ => true) (fun d => .bl (decide (sgnOf d ∈ r.cps.toList))) trivial (fun d hd k1 k0 h1 h0 => ?_) ?_
  · obtain ⟨c, rfl, hc⟩ := signsD_mem hd
    exact ⟨_, List.getElem?_set_self (by rw [wipeE_length]; exact hj), .inl ⟨c, r, rfl, rfl, h1 rfl⟩⟩
  · refine ⟨.bl (sgnIn r z), ?_, q⟩
    have e : ((signsD z).filter fun _ => true).map (fun d => D.bl (decide (sgnOf d ∈ r.cps.toList))) = (z.cps.toList.map fun c => decide (c ∈ r.cps.toList)).map D.bl := by
      rw [List.filter_eq_self.mpr (fun _ _ => rfl)]
      unfold signsD
      rw [List.map_map, List.map_map]
      rfl
    show allF s [.lst _] = _
    rw [e, all_l]
    unfold sgnIn
    rw [List.all_map]
    rfl
end
end Dl
set_option Elab.async false
set_option linter.all false
set_option autoImplicit false
set_option maxRecDepth 100000
set_option maxHeartbeats 4000000
namespace Dl
open PySem PySem.Spec PyProof.Rows L2
/-- one more pair goes to the dict that a comprehension makes -/
theorem setT {X : Cx} {ps : List (Addr × Obj)} {σ : L2.St} {H : Hp} {s : Shared} {E : Value → Shared → Prop} {C q : Addr} {es : List (List Key × V)} {k : List Key} {z : V} {r : Value} {Q : Unit → Shared → Prop} (hu : X.A.units + 1 < cLine) (J : Inv X ps σ H s)
    (hC : H C = some (.dT es)) (hq : H q = some (.tup (k.map kV))) (hl : es.length < sizeLine) (hz : RelV z r) (fin : ∀ s', Inv X ps σ (upd H C (.dT (putK es k z))) s' → Q () s') : wpAny (model X.prog X.w) X.A (dictSet C (.ref q) r) Q E s := by
  obtain ⟨le, nm, xs, kt, od⟩ := dt_of J.hok hC
  have sz1 : xs.length ≤ sizeLine := by rw [← Paired.length kt]; exact le
  have sz2 : (putK es k z).length ≤ sizeLine := Nat.le_trans (length_putK es k z) hl
  refine wpAny_dictSet_heap (hsz := sz1) (show (tupleKind (mixKind X.prog X.w)).room X.A from Nat.lt_of_succ_lt hu) (key_of J.hok hq) od fun h' od' same => fin _ ?_
  obtain ⟨o, ens, ver, ho, c1, c2, c3, _, c5⟩ := od'
  exact d_write J (by rw [hC]; exact True.intro) same ⟨o, ho⟩ ⟨sz2, nm, _, (kt.put k hq hz).keeps fun c ys ec => by rw [upd_ne (ne_of ec hC fun w => nomatch w)]; exact ec, o, ens, ver, ho, c1, c2, c3, c5⟩
section
/-- what a dict comprehension with tuple keys asks; N: the new dict -/
def tDcT (wi : TI) (g : TG) (tt : TT) (tk tv : TE) (vs : List Nat) : TE := fun σ H Q => wi σ H fun J H1 => ∀ N, H1 N = none → ∃ W : Nat → Nat → Hp → Prop, (∃ m, W 0 m (upd H1 N (.dT []))) ∧ ∀ i m H, W i m H →
  (J.stop i H ∧ Q (.ref N) H) ∨ (J.go i H ∧ ∃ P : Hp → Prop, (∀ H', P H' → ∃ m', m' < m ∧ W (i + 1) m' H') ∧ ∀ x H', J.yld i H x H' → g x (L2.wipe σ vs) H' fun σ2 H2 => L2.wipe σ2 vs = L2.wipe σ vs ∧ tt σ2 H2 fun b H3 =>
    if b = true then tk σ2 H3 fun y H4 => tv σ2 H4 fun z H5 => ∃ es k q, y = .ref q ∧ H5 q = some (.tup (k.map kV)) ∧ H5 N = some (.dT es) ∧ es.length < sizeLine ∧ P (upd H5 N (.dT (putK es k z))) else P H3)
theorem dcT_core {X : Cx} {ps : List (Addr × Obj)} {s : Shared} {σ : L2.St} {H : Hp} {Q : VK} {kx vx tg iter : Expr} {ifs : List Expr} {sc : Scope} {own : List (Str × Nat)} {pos pos' : Pos} {wi : TI} {g : TG} {tt : TT} {tk tv : TE} {use : Option (Value → Sem Unit)} {Qf : Value → Shared → Prop}
    (hc : X.calm = true) (hu : X.A.units + 1 < cLine) (hN : X.N.Nodup) (J0 : Inv X ps σ H s) (hi : PI X tg iter wi) (ok : BlkOk X.N X.env.scope sc own) (hg : ∀ s H C cl fp, PG (X.blk s H sc (compEnvC sc cl C X.env) fp) tg g) (ht : ∀ s H C cl fp, PTs (X.blk s H sc (compEnvC sc cl C X.env) fp) ifs tt)
    (hk : ∀ s H C cl fp, PE (X.blk s H sc (compEnvC sc cl C X.env) fp) kx tk) (hv : ∀ s H C cl fp, PE (X.blk s H sc (compEnvC sc cl C X.env) fp) vx tv) (hs : ∀ x, foldedSetIterable iter X.env x = pure x) (rd : tDcT wi g tt tk tv (own.map (·.2)) σ H Q)
    (back : ∀ N C s' m H', Inv X ps σ H' s' → Q (.ref N) H' → s'.heap.Ns C m → FpOk X ps H' C → compPost (model X.prog X.w) X.A X.xe use Qf (.ref N) C (.ok .next) s') :
    wpAny (model X.prog X.w) X.A (comprehension (.DictComp kx vx [⟨tg, iter, ifs, 0⟩] sc pos) sc X.env pos' newDict false (eval iter X.env) use) Qf X.xe s := by
  have free : ∀ nm ∈ sc.names, nm.2 = .free → ∃ c, X.env.cells.lookup nm.1 = some c := fun nm hnm e => (ok.free nm hnm e).elim (fun z => J0.ok.has _ (.inl z)) fun z => J0.ok.has _ (.inr z)
  refine wpAny_comprehension_free (use := use) rfl hs (closure_ok free) ok.kind (fun nm hnm e => by rw [ok.uniq nm hnm, e]) (thn (hi.run ps s σ H _ J0 rd) fun xv s1 hx => thn hx fun itv s2 h2 => ?_)
  obtain ⟨it, fp, tn, J, H2, rfl, J2, T, t2, f2, q⟩ := h2
  refine wpAny_newObj_type (newEnv_comp ?_)
  generalize eN : s2.heap.objs.size = N
  obtain ⟨W, ⟨m0, w0⟩, turn⟩ := q N (J2.hok.fresh (Nat.le_of_eq eN))
  generalize e3 : ({ s2 with heap := s2.heap.push { cls := .type "dict", data := .dict #[] } } : Shared) = s3
  have hp3 : s3.heap = s2.heap.push { cls := .type "dict", data := .dict #[] } := by rw [← e3]
  have J3 : Inv X ps σ (upd H2 N (.dT [])) s3 := by
    rw [← e3]
    exact J2.laid (t' := s2.toks) (fun b o e => Heap.get?_push_of_some _ e) (Nat.le_of_eq eN) (by rw [← eN]; exact dt_empty s2.heap J2.big)
  have low : ∀ b ∈ fp, b < s2.heap.objs.size := fun b hb => let ⟨o, e, _⟩ := T.obj _ _ t2 b hb; Heap.lt_size e
  have f3 : ∀ b ∈ fp, FpOk X ps (upd H2 N (.dT [])) b ∧ b < s3.heap.objs.size := fun b hb => ⟨⟨by rw [upd_ne (by rw [← eN]; exact Nat.ne_of_lt (low b hb))]; exact (f2 b hb).1, (f2 b hb).2⟩, by rw [hp3, Heap.size_push]; exact Nat.lt_succ_of_lt (low b hb)⟩
  have t3 : tn 0 s3.heap := T.keep _ _ _ t2 fun b _ o e => by rw [hp3]; exact Heap.get?_push_of_some _ e
  have J4 := block_start J3 ok hN f3
  generalize eC : s3.heap.objs.size = C at J4 f3
  generalize ecl : cellsFrom (C + 1) sc.names (cloFrom X.env.cells sc.names []) = cl at J4
  show codeAny _ _ (.compStart (.DictComp kx vx [⟨tg, iter, ifs, 0⟩] sc pos) 0 (.ref it) (.ref N) (compEnvC sc cl C X.env)) (compPost (model X.prog X.w) X.A X.xe use Qf (.ref N) C) { s3 with heap := pushCells (s3.heap.push { cls := .type "dict", data := .dict #[] }) sc.names }
  generalize e3H : upd H2 N (.dT []) = H3 at J3 J4 w0 f3
  have pg := hg s3 H3 C cl fp
  have pt := ht s3 H3 C cl fp
  have pk := hk s3 H3 C cl fp
  have pv := hv s3 H3 C cl fp
  have none3 : ∀ b ∈ fp, H3 b = none := fun b hb => (f3 b hb).1.1
  generalize ece : compEnvC sc cl C X.env = ce at J4 pg pt pk pv ⊢
  have atC : ce.locals = C := by subst ece; rfl
  generalize e4 : ({ s3 with heap := pushCells (s3.heap.push { cls := .type "dict", data := .dict #[] }) sc.names } : Shared) = s4 at J4 ⊢
  have t4 : tn 0 s4.heap := T.keep _ _ _ t3 fun b _ o e => by rw [← e4]; exact pushCells_keeps _ _ _ _ (Heap.get?_push_of_some _ e)
  have calmFp : ∀ {σ' : L2.St} {H' : Hp} {s' : Shared}, Inv (X.blk s3 H3 sc ce fp) [] σ' H' s' → (∀ b ∈ fp, H' b = none) → ∀ b ∈ fp, FpOk (X.blk s3 H3 sc ce fp) [] H' b := fun {σ' H' s'} J' n b hb =>
    ⟨n b hb, (J'.ok.exf b hb).1, J'.ok.exfs b hb, .inl hb, fun x c e => (J'.ok.exf b hb).2 x c e, fun p hp => absurd (show p ∈ ([] : List (Addr × Obj)) ++ [] from hp) (by simp)⟩
  have run : codeAny (model X.prog X.w) X.A (.compLoop (.DictComp kx vx [⟨tg, iter, ifs, 0⟩] sc pos) 0 (.ref it) (.ref N) ce) (compPost (model X.prog X.w) X.A X.xe use Qf (.ref N) C) s4 := by
    refine compLoop_anyD (fun n s' => ∃ i H', Inv (X.blk s3 H3 sc ce fp) [] (L2.wipe σ (own.map (·.2))) H' s' ∧ tn i s'.heap ∧ (∀ b ∈ fp, H' b = none) ∧ W i n H') ?_ m0 ⟨0, H3, J4, t4, none3, w0⟩
    rintro n s5 ⟨i, H5, J5, t5, n5, w5⟩
    rcases turn i n H5 w5 with ⟨stop, qq⟩ | ⟨go, P, hP, step⟩
    · refine thnF (T.done (X.blk s3 H3 sc ce fp) rfl rfl rfl hc i [] s5 _ H5 (fun _ _ => False) J5 (calmFp J5 n5) t5 stop) fun r s6 ⟨hr, J6⟩ => ?_
      subst hr
      have J7 : Inv X ps σ H5 s6 := J3.call' (ch := fp) J6.os J6.base J6.hok J6.bare fun b hb => ⟨(f3 b hb).1.2.2.2.1, (f3 b hb).1.2.1, (f3 b hb).1.2.2.2.2.1, (f3 b hb).1.2.2.2.2.2⟩
      have noC : H5 C = none := by rw [← atC]; exact J6.free
      obtain ⟨m, hn, _⟩ := J6.loc
      have hn : s6.heap.Ns ce.locals m := hn
      exact back N C s6 m H5 J7 qq (by rw [← atC]; exact hn) (J3.fpOk (Nat.le_of_eq eC) noC)
    · refine thnF (T.item (X.blk s3 H3 sc ce fp) rfl rfl rfl hc i [] s5 _ H5 (fun _ _ => False) J5 (calmFp J5 n5) t5 go) fun r s6 ⟨u, hr, h6⟩ => ?_
      subst hr
      refine thnF h6 fun _ s7 ⟨x, H7, J7, r7, y7, t7, n7⟩ => ?_
      refine thnF (pg.run _ s7 _ H7 x u _ (J7.pinned (calmFp J7 n7) (T.obj _ _ t7)) r7 (step x H7 y7)) fun _ s8 ⟨σ8, H8, J8, w8, q8⟩ => ?_
      refine thnF (pt.run _ s8 σ8 H8 _ J8 q8) fun b s9 ⟨H9, J9, q9⟩ => ?_
      have onward : ∀ {s' : Shared} {H' : Hp}, Inv (X.blk s3 H3 sc ce fp) ([] ++ pinsAt fp s7.heap) σ8 H' s' → P H' → ∃ m, m < n ∧ ∃ i H', Inv (X.blk s3 H3 sc ce fp) [] (L2.wipe σ (own.map (·.2))) H' s' ∧ tn i s'.heap ∧ (∀ b ∈ fp, H' b = none) ∧ W i m H' := fun {s' H'} J' p => by
        obtain ⟨m', hm, w'⟩ := hP H' p
        have held : ∀ b ∈ fp, ∀ o, s7.heap.get? b = some o → s'.heap.get? b = some o ∧ H' b = none := fun b hb o e => ⟨(J'.pin (b, o) (List.mem_append_right _ (List.mem_append_right _ (mem_pinsAt hb e)))).1, (J'.pin (b, o) (List.mem_append_right _ (List.mem_append_right _ (mem_pinsAt hb e)))).2.1⟩
        refine ⟨m', hm, i + 1, H', (J'.unpinned (pins := [])).weak (by rw [← w8, L2.wipe_length]) (fun j v e => by rw [← w8] at e; exact (wipe_some e).1), T.keep _ _ _ t7 fun b hb o e => (held b hb o e).1, fun b hb => ?_, w'⟩
        obtain ⟨o, e, _⟩ := T.obj _ _ t7 b hb
        exact (held b hb o e).2
      cases b with
      | false => rw [if_neg Bool.false_ne_true] at q9; exact onward J9 q9
      | true =>
        rw [if_pos rfl] at q9
        refine thnF (pk.run _ s9 σ8 H9 _ J9 q9) fun z s10 ⟨yk, H10, J10, r10, q10⟩ => ?_
        refine thnF (pv.run _ s10 σ8 H10 _ J10 q10) fun z2 s11 ⟨yv, H11, J11, r11, es, k, qa, ek, hk11, hN11, hl11, p⟩ => ?_
        subst ek
        obtain rfl : z = Value.ref qa := r10
        exact setT (X := X.blk s3 H3 sc ce fp) hu J11 hN11 hk11 hl11 r11 fun s12 J12 => onward J12 p
  exact codeAny_compStart_dict run (T.self X.A 0 _ _ _ t4 run)
theorem pe_dcT {X : Cx} {kx vx tg iter : Expr} {ifs : List Expr} {sc : Scope} {own : List (Str × Nat)} {pos : Pos} {wi : TI} {g : TG} {tt : TT} {tk tv : TE} (hc : X.calm = true) (hu : X.A.units + 1 < cLine) (hN : X.N.Nodup) (hi : PI X tg iter wi) (ok : BlkOk X.N X.env.scope sc own)
    (hg : ∀ s H C cl fp, PG (X.blk s H sc (compEnvC sc cl C X.env) fp) tg g) (ht : ∀ s H C cl fp, PTs (X.blk s H sc (compEnvC sc cl C X.env) fp) ifs tt) (hk : ∀ s H C cl fp, PE (X.blk s H sc (compEnvC sc cl C X.env) fp) kx tk)
    (hv : ∀ s H C cl fp, PE (X.blk s H sc (compEnvC sc cl C X.env) fp) vx tv) (hs : ∀ x, foldedSetIterable iter X.env x = pure x := by intro _; rfl) : PE X (.DictComp kx vx [⟨tg, iter, ifs, 0⟩] sc pos) (tDcT wi g tt tk tv (own.map (·.2))) :=
  ⟨fun ps s σ H Q J rd => by
    rw [arm_eval_DictComp]
    exact dcT_core hc hu hN J hi ok hg ht hk hv hs rd fun N C s' m H' J' q hn f => ⟨m, hn, fun h'' sb => ⟨.ref N, H', J'.turned (t' := s'.toks) (fun b o hb e => (sb.2 b hb).trans e) f.1 f.2.1 f.2.2.2.1 f.2.2.2.2.1 f.2.2.2.2.2, rfl, q⟩⟩⟩
end
section
variable {κ α : Type} [DecidableEq κ]
/-- in its place, or at the end -/
def putP (es : List (κ × α)) (k : κ) (v : α) : List (κ × α) := if (es.any fun p => decide (p.1 = k)) = true then es.map (fun p => if p.1 = k then (p.1, v) else p) else es ++ [(k, v)]
def getP (es : List (κ × α)) (k : κ) : Option α := (es.find? fun p => decide (p.1 = k)).map (·.2)
theorem putP_len (es : List (κ × α)) (k : κ) (v : α) : (putP es k v).length ≤ es.length + 1 := by
  unfold putP
  split
  · rw [List.length_map]; omega
  · rw [List.length_append]; simp
theorem any_fst {β : Type} (k : κ) : ∀ {es : List (κ × α)} {fs : List (κ × β)}, es.map (·.1) = fs.map (·.1) → (es.any fun p => decide (p.1 = k)) = fs.any fun p => decide (p.1 = k)
  | [], [], _ => rfl
  | [], _ :: _, h => by cases h
  | _ :: _, [], h => by cases h
  | p :: es, q :: fs, h => by
    rw [List.map_cons, List.map_cons] at h
    injection h with h1 h2
    rw [List.any_cons, List.any_cons, h1, any_fst k h2]
end
def keyD1 : D → Option Key
  | .int i => some (.inl i)
  | .str z => some (.inr z)
  | _ => none
def keysL : List D → Option (List Key)
  | [] => some []
  | x :: xs => match keyD1 x, keysL xs with
    | some k, some ks => some (k :: ks)
    | _, _ => none
/-- what a dict holds, over data -/
structure RelP (K : PySem.W.Frag) (F : Hp) (A : List Addr) (ds : List (List Key × D)) (es : List (List Key × V)) : Prop where
  ks : es.map (·.1) = ds.map (·.1)
  vs : DatL K F A (ds.map (·.2)) (es.map (·.2))
section
variable {K : PySem.W.Frag} {F F' : Hp} {A A' : List Addr}
theorem key_rd {x : D} {v : V} {k : Key} (h : Dat K F A x v) (e : keyD1 x = some k) : v = kV k := by
  cases h <;> cases e <;> rfl
theorem keysL_rd : ∀ {xs : List D} {vs : List V} {ks : List Key}, DatL K F A xs vs → keysL xs = some ks → vs = ks.map kV
  | [], _, _, h, e => by cases h; cases e; rfl
  | x :: xs, _, _, h, e => by
    cases h with
    | cons h1 h2 =>
      unfold keysL at e
      split at e
      · rename_i k ks e1 e2
        cases e
        rw [key_rd h1 e1, keysL_rd h2 e2]
        rfl
      · cases e
/-- a tuple as a key: one part at least -/
def keysD : List D → Option (List Key)
  | [] => none
  | x :: xs => keysL (x :: xs)
theorem keys_rd : ∀ {xs : List D} {vs : List V} {ks : List Key}, DatL K F A xs vs → keysD xs = some ks → vs = ks.map kV
  | _ :: _, _, _, h, e => keysL_rd h e
theorem tp_key {xs : List D} {a : Addr} {ks : List Key} (t : TpF K F a (ks.map kV)) (h : DatL K F A xs (ks.map kV)) (e : keysD xs = some ks) : F a = some (.tup (ks.map kV)) := by
  rcases t.t with t | t | ⟨b, r, t⟩
  · exact t
  · exfalso
    rw [t] at h
    cases h
    cases e
  · exfalso
    cases ks with
    | nil => cases t
    | cons k ks =>
      have t1 := (List.cons.inj t).1
      cases k <;> cases t1
theorem RelP.mono {ds : List (List Key × D)} {es : List (List Key × V)} (h : RelP K F A ds es) (e : Same F F') (p : ∀ (l : Nat) (a : Addr), A[l]? = some a → A'[l]? = some a) : RelP K F' A' ds es := ⟨h.ks, h.vs.mono e p⟩
theorem RelP.len {ds : List (List Key × D)} {es : List (List Key × V)} (h : RelP K F A ds es) : es.length = ds.length := by
  have := congrArg List.length h.ks
  simpa using this
theorem put_map {x : D} {v : V} (hx : Dat K F A x v) (k : List Key) : ∀ {ds : List (List Key × D)} {es : List (List Key × V)}, es.map (·.1) = ds.map (·.1) → DatL K F A (ds.map (·.2)) (es.map (·.2)) →
    DatL K F A ((ds.map fun p => if p.1 = k then (p.1, x) else p).map (·.2)) ((es.map fun p => if p.1 = k then (p.1, v) else p).map (·.2)) ∧ (es.map fun p => if p.1 = k then (p.1, v) else p).map (·.1) = (ds.map fun p => if p.1 = k then (p.1, x) else p).map (·.1)
  | [], [], _, _ => ⟨.nil, rfl⟩
  | [], _ :: _, h, _ => by cases h
  | _ :: _, [], h, _ => by cases h
  | p :: ds, q :: es, h, d => by
    rw [List.map_cons, List.map_cons] at h
    injection h with h1 h2
    cases d with
    | cons d1 d2 =>
      obtain ⟨g1, g2⟩ := put_map hx k h2 d2
      by_cases e : p.1 = k
      · have e' : q.1 = k := h1.trans e
        simp only [List.map_cons, if_pos e, if_pos e'] at g1 g2 ⊢
        exact ⟨.cons hx g1, by rw [g2, e, e']⟩
      · have e' : ¬ q.1 = k := fun z => e (h1.symm.trans z)
        simp only [List.map_cons, if_neg e, if_neg e'] at g1 g2 ⊢
        exact ⟨.cons d1 g1, by rw [g2, h1]⟩
theorem RelP.put {ds : List (List Key × D)} {es : List (List Key × V)} {x : D} {v : V} (h : RelP K F A ds es) (k : List Key) (hx : Dat K F A x v) : RelP K F A (putP ds k x) (putK es k v) := by
  have e := any_fst k h.ks
  unfold putP putK
  rw [e]
  split
  · obtain ⟨g1, g2⟩ := put_map hx k h.ks h.vs
    exact ⟨g2, g1⟩
  · refine ⟨by rw [List.map_append, List.map_append, h.ks]; rfl, ?_⟩
    rw [List.map_append, List.map_append]
    exact h.vs.append (.cons hx .nil)
end
def dcD (g : Sto → Prop) (tg : GD) (tt : TD) (tk tv : ED) (env : En) : List D → List (List Key × D) → Sto → (List (List Key × D) → Sto → Prop) → Prop
  | [], acc, s, Q => g s ∧ Q acc s
  | d :: ds, acc, s, Q => g s ∧ tg d env s fun env1 s1 => tt env1 s1 fun b s2 => if b = true then tk env1 s2 fun y s3 => tv env1 s3 fun z s4 => ∃ xs k, y = .tup xs ∧ keysD xs = some k ∧ dcD g tg tt tk tv env ds (putP acc k z) s4 Q else dcD g tg tt tk tv env ds acc s2 Q
theorem mono_dcD {g : Sto → Prop} {tg : GD} {tt : TD} {tk tv : ED} (mg : MonoG tg) (mt : Mono tt) (mk : Mono tk) (mv : Mono tv) {env : En} : ∀ (ds : List D) (acc : List (List Key × D)) (s : Sto) (P P' : List (List Key × D) → Sto → Prop), (∀ d s', P d s' → P' d s') → dcD g tg tt tk tv env ds acc s P → dcD g tg tt tk tv env ds acc s P'
  | [], _, _, _, _, f, ⟨h1, h2⟩ => ⟨h1, f _ _ h2⟩
  | d :: ds, acc, _, P, P', f, ⟨h1, h2⟩ => ⟨h1, mg _ _ _ _ _ (fun env1 s1 h3 => mt _ _ _ _ (fun b s2 h4 => by
    cases b with
    | true =>
      rw [if_pos rfl] at h4 ⊢
      exact mk _ _ _ _ (fun y s3 h5 => mv _ _ _ _ (fun z s4 ⟨xs, k, e1, e2, h6⟩ => ⟨xs, k, e1, e2, mono_dcD mg mt mk mv ds _ s4 P P' f h6⟩) h5) h4
    | false => rw [if_neg Bool.false_ne_true] at h4 ⊢; exact mono_dcD mg mt mk mv ds _ s2 P P' f h4) h3) h2⟩
/-- the dict never changes -/
def dDc (it : ID) (tg : GD) (tt : TD) (tk tv : ED) (vs : List Nat) : ED := fun env s Q => it env s fun ds g s1 => ds.length ≤ sizeLine ∧ dcD g tg tt tk tv (wipeE env vs) ds [] s1 fun acc s2 => Q (.dt (acc.map (·.1)) (acc.map (·.2))) s2
theorem mono_dc {it : ID} {tg : GD} {tt : TD} {tk tv : ED} {vs : List Nat} (mi : MonoI it) (mg : MonoG tg) (mt : Mono tt) (mk : Mono tk) (mv : Mono tv) : Mono (dDc it tg tt tk tv vs) := fun _ _ _ _ f h => mi _ _ _ _ (fun ds g s1 ⟨hl, q⟩ => ⟨hl, mono_dcD mg mt mk mv _ _ _ _ _ (fun _ _ h => f _ _ h) q⟩) h
structure DcEnd (K : PySem.W.Frag) (B : List Addr) (D0 : Addr) (H1 : Hp) (A1 : List Addr) (s1 : Sto) (H : Hp) (A : List Addr) (s : Sto) (ds : List (List Key × D)) : Prop where
  rs : RepS K (D0 :: B) H A s
  same : Same (Fz B H1 A1 s1) (Fz (D0 :: B) H A s)
  pre : ∀ (l : Nat) (a : Addr), A1[l]? = some a → A[l]? = some a
  hid : ∀ b ∈ B, H b = H1 b
  nb : D0 ∉ B
  it : ∃ es, H D0 = some (.dT es) ∧ RelP K (Fz (D0 :: B) H A s) A ds es
theorem dc_rd {it : ID} {c : CT} {tt : TD} {tk tv : ED} {own : List Nat} (mi : MonoI it) (mt : Mono tt) (mk : Mono tk) (mv : Mono tv) (hs : ∀ i ∈ c.slots, i ∈ own) {K : KK} (σ : L2.St) (H : Hp) (Q : VK) (h : rdE K (dDc it c.g tt tk tv own) σ H Q) :
    tDcT (rdI K it) (c.t K) (rdT (kk0 K.K) tt) (rdE (kk0 K.K) tk) (rdE (kk0 K.K) tv) own σ H Q := by
  obtain ⟨env, s, A, B, w, h⟩ := h
  refine ⟨env, s, A, B, w, mi _ _ _ _ (fun ds gd s1 q J H1 A1 r1 e1 ok => ?_) h⟩
  obtain ⟨hlen, q⟩ := q
  intro D0 hD0
  have w1 := w.to r1 e1
  obtain ⟨r1', s1'⟩ := r1.hide (D0 := D0) (o := .dT []) hD0
  have nb : D0 ∉ B := fun z => r1.hb D0 z hD0
  let P2 : Nat → Hp → Prop := fun i H' => ∃ (s' : Sto) (A' : List Addr) (acc : List (List Key × D)), DcEnd K B D0 H1 A1 s1 H' A' s' acc ∧ RepE K (Fz (D0 :: B) H' A' s') A' (wipeE env own) (L2.wipe σ own) ∧ acc.length ≤ i ∧
    dcD gd c.g tt tk tv (wipeE env own) (ds.drop i) acc s' fun acc s2 => PostE K B H A s Q (.dt (acc.map (·.1)) (acc.map (·.2))) s2
  refine ⟨fun i m H' => m = ds.length - i ∧ i ≤ ds.length ∧ P2 i H', ⟨ds.length, by simp, Nat.zero_le _, s1, A1, [], ⟨r1', s1', fun _ _ h => h, fun b hb => upd_ne (fun z => nb (by rw [← z]; exact hb)), nb, [], upd_same, rfl, .nil⟩, ?_, Nat.zero_le _, by simpa using q⟩, ?_⟩
  · have := (w1.re.wipe own)
    exact ⟨this.len, fun i d hd => let ⟨v, h1, h2⟩ := this.get i d hd; ⟨v, h1, h2.mono s1' fun _ _ h => h⟩⟩
  rintro i m H2 ⟨rfl, hi, s2, A2, acc, le, re2, hacc, q2⟩
  have okw := ok (D0 :: B) H2 A2 s2 le.rs le.same le.pre
  by_cases hlt : i < ds.length
  · have hd : ds[i]? = some ds[i] := List.getElem?_eq_getElem hlt
    rw [drop_cons hd] at q2
    obtain ⟨hgd, q3⟩ := q2
    obtain ⟨go, yl⟩ := (okw hgd i).1 _ hd
    refine .inr ⟨go, P2 (i + 1), fun H' n => ⟨ds.length - (i + 1), by omega, rfl, hlt, n⟩, fun x H3 y => ?_⟩
    obtain ⟨r3, e3, d3⟩ := yl x H3 y
    have w3 : Wo (kk0 K.K) (D0 :: B) H3 A2 s2 (wipeE env own) (L2.wipe σ own) := (Wo.mk (K := kk0 K.K) le.rs re2 trivial).to r3 e3
    have step : ∀ {H' : Hp} {A' : List Addr} {s' : Sto}, RepS K (D0 :: B) H' A' s' → Ext (D0 :: B) H2 A2 s2 H' A' s' → DcEnd K B D0 H1 A1 s1 H' A' s' acc ∧ RepE K (Fz (D0 :: B) H' A' s') A' (wipeE env own) (L2.wipe σ own) := fun {H' A' s'} r' e' => by
      obtain ⟨es, hv, dv⟩ := le.it
      exact ⟨⟨r', le.same.trans e'.same, fun l a h => e'.pre l a (le.pre l a h), fun b hb => (e'.hid b (List.mem_cons_of_mem _ hb)).trans (le.hid b hb), nb, es, (e'.hid D0 List.mem_cons_self).trans hv, dv.mono e'.same e'.pre⟩, re2.ext e'⟩
    refine c.rd (K := kk0 K.K) hs w3 d3 q3 fun env4 σ4 q4 w4 => ?_
    refine rdT_go mt w4 q4 fun b s5 H5 A5 q5 w5 e5 => ?_
    cases b with
    | false =>
      rw [if_neg Bool.false_ne_true] at q5 ⊢
      obtain ⟨le5, re5⟩ := step w5.rs (e3.trans e5)
      exact ⟨s5, A5, acc, le5, re5, Nat.le_succ_of_le hacc, q5⟩
    | true =>
      rw [if_pos rfl] at q5 ⊢
      refine rdE_go mk w5 q5 fun y s6 v6 H6 A6 q6 w6 e6 d6 => ?_
      refine rdE_go mv w6 q6 fun z s7 v7 H7 A7 q7 w7 e7 d7 => ?_
      obtain ⟨xs, k, rfl, hk, q7⟩ := q7
      obtain ⟨le7, re7⟩ := step w7.rs (((e3.trans e5).trans e6).trans e7)
      obtain ⟨es, hv, dv⟩ := le7.it
      cases d6.ext e7 with
      | tup ht hts =>
        have hkv := keys_rd hts hk
        subst hkv
        refine ⟨es, k, _, rfl, (fz_of (tp_key ht hts hk)).1, hv, by rw [dv.len]; omega, ?_⟩
        obtain ⟨r8, s8⟩ := le7.rs.hidW (o := .dT (putK es k v7))
        refine ⟨s7, A7, putP acc k z, ⟨r8, le7.same.trans s8, le7.pre, fun b hb => (upd_ne (fun z => nb (by rw [← z]; exact hb))).trans (le7.hid b hb), nb, _, upd_same, ?_⟩, ?_, Nat.le_trans (putP_len _ _ _) (Nat.succ_le_succ hacc), q7⟩
        · exact (dv.put k d7).mono s8 fun _ _ h => h
        · exact ⟨re7.len, fun i d hd => let ⟨v, h1, h2⟩ := re7.get i d hd; ⟨v, h1, h2.mono s8 fun _ _ h => h⟩⟩
  · have : i = ds.length := by omega
    subst this
    rw [List.drop_length] at q2
    obtain ⟨hgd, p⟩ := q2
    refine .inl ⟨(okw hgd _).2 (Nat.le_refl _), ?_⟩
    obtain ⟨es, hv, dv⟩ := le.it
    refine p _ _ _ le.rs.show (e1.trans ⟨le.same.trans fz_hide, le.pre, le.hid⟩) ?_
    rw [← dv.ks]
    exact .dt (fz_to hv (fun ⟨l, mo, h1, h2, _⟩ => le.rs.ab D0 List.mem_cons_self (List.mem_of_getElem? h2)) le.nb) (dv.vs.mono fz_hide fun _ _ h => h)
/-- what its parts ask -/
structure DcP (X : DX) (kx vx tg : Expr) (ifs : List Expr) (scope : Scope) (c : CT) (tt : TD) (tk tv : ED) : Prop where
  hg : ∀ (s : Shared) (H : Hp) (C : Addr) (cl : List (Str × Addr)) (fp : List Addr), PG (X.blk s H scope (compEnvC scope cl C X.env) fp) tg (c.t X.K)
  ht : ∀ (s : Shared) (H : Hp) (C : Addr) (cl : List (Str × Addr)) (fp : List Addr), PTsD (dx0 (X.blk s H scope (compEnvC scope cl C X.env) fp)) ifs tt
  hk : ∀ (s : Shared) (H : Hp) (C : Addr) (cl : List (Str × Addr)) (fp : List Addr), PD (dx0 (X.blk s H scope (compEnvC scope cl C X.env) fp)) kx tk
  hv : ∀ (s : Shared) (H : Hp) (C : Addr) (cl : List (Str × Addr)) (fp : List Addr), PD (dx0 (X.blk s H scope (compEnvC scope cl C X.env) fp)) vx tv
theorem pd_dc {X : DX} {pos : Pos} {kx vx tg iter : Expr} {ifs : List Expr} {scope : Scope} {own : List (Str × Nat)} {it : ID} {tt : TD} {tk tv : ED} (c : CT) (hc : X.calm = true) (hu : X.A.units + 64 < cLine) (hN : X.N.Nodup) (hi : PID X tg iter it) (ok : BlkOk X.N X.env.scope scope own) (p : DcP X kx vx tg ifs scope c tt tk tv) (sl : ∀ i ∈ c.slots, i ∈ own.map (·.2))
    (hs : ∀ x, foldedSetIterable iter X.env x = pure x := by intro _; rfl) : PD X (.DictComp kx vx [⟨tg, iter, ifs, 0⟩] scope pos) (dDc it c.g tt tk tv (own.map (·.2))) :=
  have mt : Mono tt := (p.ht X.s_0 (fun _ => none) 0 [] []).mono
  have mk : Mono tk := (p.hk X.s_0 (fun _ => none) 0 [] []).mono
  have mv : Mono tv := (p.hv X.s_0 (fun _ => none) 0 [] []).mono
  ⟨pe_imp (pe_dcT hc (by omega) hN hi.pi ok p.hg (fun s H C cl fp => (p.ht s H C cl fp).pts) (fun s H C cl fp => (p.hk s H C cl fp).pe) (fun s H C cl fp => (p.hv s H C cl fp).pe) hs) (dc_rd hi.mono mt mk mv sl), mono_dc hi.mono c.mono mt mk mv⟩
/-- a dict comprehension, by a property of what is left and what is made -/
theorem dcD_run {g : Sto → Prop} {tg : GD} {tt : TD} {tk tv : ED} {env : En} (I : List D → List (List Key × D) → Sto → Prop)
    (step : ∀ d rest acc s, I (d :: rest) acc s → ∀ (k1 : List (List Key × D) → Sto → Prop), (∀ acc' s', I rest acc' s' → k1 acc' s') →
      g s ∧ tg d env s fun env1 s1 => tt env1 s1 fun b s2 => if b = true then tk env1 s2 fun y s3 => tv env1 s3 fun z s4 => ∃ xs k, y = .tup xs ∧ keysD xs = some k ∧ k1 (putP acc k z) s4 else k1 acc s2) : ∀ {ds : List D} {acc : List (List Key × D)} {s : Sto} {Q : List (List Key × D) → Sto → Prop}, I ds acc s → (∀ ys s', I [] ys s' → g s' ∧ Q ys s') → dcD g tg tt tk tv env ds acc s Q
  | [], acc, s, Q, h, done => done acc s h
  | d :: ds, acc, s, Q, h, done => step d ds acc s h (fun acc' s' => dcD g tg tt tk tv env ds acc' s' Q) fun acc' s' h' => dcD_run I step h' done
end Dl
set_option Elab.async false
set_option linter.all false
set_option autoImplicit false
set_option maxRecDepth 100000
set_option maxHeartbeats 4000000
namespace Dl
open PySem PySem.Spec PyProof.Rows L2
/-- a text's signs with their places, in new pairs -/
def Itn (z : Str) : It := ⟨fun i _ => i < z.cps.size, fun i H v H' => ∃ T c, v = .ref T ∧ H T = none ∧ H' = upd H T (.tup [.int (i : Nat), .str ⟨#[c]⟩]) ∧ z.cps[i]? = some c, fun i _ => z.cps.size ≤ i⟩
theorem draws_str {P : Program} {w : World} {A : Around} (hh : A.handled = none) (it : Addr) (z : Str) (t : Tok) {ty : String} (hty : ty = "str_ascii_iterator" ∨ ty = "str_iterator") :
    Draws P w A it [it] z.cps.size (fun i v => ∃ c u, z.cps[i]? = some c ∧ v = .str ⟨#[c]⟩ u) (fun i h => h.IsStrIter it ty z t i) := by
  rcases hty with rfl | rfl
  · exact .strAscii hh it z t
  · exact .strWide hh it z t
theorem turn_enumS {P : Program} {w : World} {K : PySem.W.Frag} {elts : List Expr} {kk : Nat} {tpos : Pos} (z : Str) (t : Tok) (e it : Addr) {ty : String} (hty : ty = "str_ascii_iterator" ∨ ty = "str_iterator") :
    Turn P w K (.Tuple elts kk tpos) (Itn z) [e, it] e (fun i h => i ≤ z.cps.size ∧ (∃ old, IsEnum h e it ((i : Nat) : Int) old) ∧ h.IsStrIter it ty z t i ∧ e ≠ it) where
  mem := by simp
  obj := fun i h ⟨_, ⟨old, he⟩, ⟨o, ho, hc, hd⟩, _⟩ b hb => by
    rcases List.mem_cons.mp hb with rfl | hb
    · exact ⟨_, he, fun v q => nomatch q⟩
    · rw [List.mem_singleton.mp hb]
      exact ⟨o, ho, fun v q => by rw [hd] at q; cases q⟩
  keep := fun i h h' ⟨hi, ⟨old, he⟩, ⟨o, ho, r⟩, ne⟩ k => ⟨hi, ⟨old, k e (by simp) _ he⟩, ⟨o, k it (by simp) _ ho, r⟩, ne⟩
  item := by
    intro X hP hw hK hc i ps s σ H E J hf st hg
    subst hP hw hK
    obtain ⟨hi, ⟨old, he⟩, hit, ne⟩ := st
    have le : e < s.heap.objs.size := Heap.lt_size he
    have li : it < s.heap.objs.size := let ⟨_, q, _⟩ := hit; Heap.lt_size q
    refine wpAny_pyNext_enum_itemD (draws_str (A := X.A.in1) (J.ok.hd hc) it z t hty) he hit hg ne (by simpa using ne) fun x h' tk hx ho hit' hT hsz hk => ?_
    obtain ⟨c, u, hcx, rfl⟩ := hx
    refine ⟨_, rfl, wpAny_letOwnedTupleGo_enum (s := { s with heap := h', toks := tk + 1 }) ho fun h2 he2 sb => ?_⟩
    have hT2 : h2.get? s.heap.objs.size = some { cls := .type "tuple", data := .seq #[.int i tk, .str ⟨#[c]⟩ u] } := (sb.2 _ (Nat.ne_of_gt le)).trans hT
    have new : ObjOk X.prog X.w (upd H s.heap.objs.size (.tup [.int (i : Nat), .str ⟨#[c]⟩])) h2 s.heap.objs.size (.tup [.int (i : Nat), .str ⟨#[c]⟩]) :=
      ⟨by show 2 ≤ sizeLine; decide, [.int i tk, .str ⟨#[c]⟩ u], .cons ⟨_, rfl⟩ (.cons ⟨_, rfl⟩ .nil), ⟨_, hT2, rfl, _, rfl⟩⟩
    have J1 : Inv X ps σ (upd H s.heap.objs.size (.tup [.int (i : Nat), .str ⟨#[c]⟩])) { s with heap := h2, toks := tk + 1 } :=
      J.turnedNew (ch := [e, it]) (fun b ob hb q => (sb.2 b fun y => hb (by simp [y])).trans (hk b ob (fun y => hb (by simp [y])) (fun y => hb (by simp [y])) q)) hf (Nat.le_refl _) new
    obtain ⟨oi, hoi, ri⟩ := hit'
    refine ⟨.ref s.heap.objs.size, _, J1, rfl, ⟨_, c, rfl, J.hok.fresh (Nat.le_refl _), rfl, hcx⟩, ⟨hg, ⟨_, by rw [show ((i + 1 : Nat) : Int) = (i : Int) + 1 by omega]; exact he2⟩, ⟨oi, (sb.2 it (Ne.symm ne)).trans hoi, ri⟩, ne⟩, fun b hb => ?_⟩
    have lb : b < s.heap.objs.size := by
      rcases List.mem_cons.mp hb with rfl | hb
      · exact le
      · rw [List.mem_singleton.mp hb]; exact li
    rw [upd_ne (Nat.ne_of_lt lb)]
    exact (hf b hb).1
  done := by
    intro X hP hw hK hc i ps s σ H E J hf st hg
    subst hP hw hK
    obtain ⟨hi, ⟨old, he⟩, hit, ne⟩ := st
    obtain ⟨f0, f1, f2, f3, f4, f5⟩ := hf it (by simp)
    have hg : z.cps.size ≤ i := hg
    obtain rfl : i = z.cps.size := Nat.le_antisymm hi hg
    exact wpAny_pyNext_enum_endD (draws_str (A := X.A.in1) (J.ok.hd hc) it z t hty) he hit fun h' eb => ⟨rfl, J.turned (t' := s.toks) (fun b o hb q => eb b o hb q) f0 f1 f3 f4 f5⟩
  self := fun A i s Q E ⟨_, ⟨_, he⟩, _⟩ h => wpAny_pyIter_enum he h
def iEnS (ta : TA) : TI := fun σ H R => ta σ H fun vs H1 => ∃ z, vs = [.str z] ∧ R (Itn z) H1
theorem pi_enumS {X : Cx} {e : Expr} {ta : TA} {p pos tpos : Pos} {elts : List Expr} {kk : Nat} (hg : Gl X "enumerate") (hm : X.mg "enumerate" = none) (ha : PA X [e] ta) (hs : starEach [e] X.env = [(false, eval e X.env)] := by rfl) :
    PI X (.Tuple elts kk tpos) (.Call (.Name "enumerate" p) [e] [] pos) (iEnS ta) := by
  refine ⟨fun ps s σ H R J h => Call_ (ld_blt J hg hm boot_enumerate (PyProof.Rows.callWith_type1 (thn (ha.run pos ps s σ H _ J h) fun us s1 ⟨vs, H1, J1, r1, z, ez, q⟩ => ?_) hs rfl))⟩
  subst ez
  obtain ⟨u, rfl, t, rfl⟩ := vals1 r1
  refine call_enumerate_str fun h' he hit hsz hk => wpAny_pyIter_enum he ?_
  have J2 : Inv X ps σ H1 { s1 with heap := h' } := J1.kept (t' := s1.toks) hk
  have hty : strIterType z = "str_ascii_iterator" ∨ strIterType z = "str_iterator" := by
    unfold strIterType
    split
    · exact .inl rfl
    · exact .inr rfl
  refine ⟨s1.heap.objs.size + 1, [s1.heap.objs.size + 1, s1.heap.objs.size], _, _, H1, rfl, J2, turn_enumS z t (s1.heap.objs.size + 1) s1.heap.objs.size hty, ⟨Nat.zero_le _, ⟨.none, he⟩, hit, Nat.succ_ne_self _⟩, fun b hb => ?_, q⟩
  have up : s1.heap.objs.size ≤ b := by
    rcases List.mem_cons.mp hb with rfl | hb
    · exact Nat.le_succ _
    · rw [List.mem_singleton.mp hb]; exact Nat.le_refl _
  exact J1.fpOk up (J1.hok.fresh up)
/-- places with signs -/
def placesD (z : Str) : List D := (List.range z.cps.size).map fun i => .tup [.int (i : Nat), .str ⟨#[z.cps.getD i 0]⟩]
theorem itok_enumS {K : PySem.W.Frag} {B : List Addr} {H : Hp} {A : List Addr} {s : Sto} {z : Str} : ItOk K B (Itn z) (placesD z) noG H A s := by
  intro B' H' A' s' R e p hg i
  have hlen : (placesD z).length = z.cps.size := by simp [placesD]
  refine ⟨fun d hi => ?_, fun hi => show z.cps.size ≤ i by rw [← hlen]; exact hi⟩
  have hn : i < z.cps.size := by
    have := (List.getElem?_eq_some_iff.mp hi).1
    rwa [hlen] at this
  have hd : d = .tup [.int (i : Nat), .str ⟨#[z.cps.getD i 0]⟩] := by
    simp [placesD, hn] at hi
    rw [← hi]
    simp [Array.getD, hn]
  refine ⟨hn, fun v H2 ⟨T, c, ev, hT, eH, hc⟩ => ?_⟩
  subst ev eH hd
  have ec : z.cps.getD i 0 = c := by
    have h1 : z.cps[i]? = some z.cps[i] := Array.getElem?_eq_getElem hn
    rw [h1] at hc
    simp [Array.getD, hn]
    exact Option.some.inj hc
  obtain ⟨r2, e2, f2⟩ := R.laid (o := .tup [.int (i : Nat), .str ⟨#[c]⟩]) hT
  refine ⟨r2, e2, .tup (.of f2) (.cons (.int _) (.cons ?_ .nil))⟩
  rw [ec]
  exact .str _ (by show 1 ≤ sizeLine; decide)
section
variable {pos p : Pos} {e tg : Expr} {te : ED}
def iEn (t : AD) : ID := fun env s R => t env s fun xs s1 => ∃ z, xs = [.str z] ∧ R (placesD z) noG s1
theorem mono_iEn {t : AD} (m : Mono t) : MonoI (iEn t) := fun _ _ _ _ f h => m _ _ _ _ (fun _ _ ⟨z, e, q⟩ => ⟨z, e, f _ _ _ q⟩) h
theorem pid_enum {X : DX} {t : AD} {tpos : Pos} {elts : List Expr} {kk : Nat} (hg : Gl X "enumerate") (hm : X.mg "enumerate" = none) (ha : PAD X [e] t) (hs : starEach [e] X.env = [(false, eval e X.env)] := by rfl) : PID X (.Tuple elts kk tpos) (.Call (.Name "enumerate" p) [e] [] pos) (iEn t) :=
  ⟨pi_imp (pi_enumS hg hm ha.pa hs) fun σ H R ⟨env, s, A, B, w, h⟩ => rdA_go ha.mono w h fun xs s1 vs H1 A1 ⟨z, ex, q⟩ w1 e1 dv => by
    subst ex
    obtain ⟨v, rfl, d⟩ := one_of dv
    cases d
    exact ⟨z, rfl, q _ _ _ w1.rs e1 itok_enumS⟩, mono_iEn ha.mono⟩
end
end Dl
set_option Elab.async false
set_option linter.all false
set_option autoImplicit false
set_option maxRecDepth 100000
set_option maxHeartbeats 4000000
namespace Bk
open PySem PySem.Spec PyProof.Rows L2 Dl
def isCnt : D → Bool
  | .int i => decide (0 ≤ i)
  | _ => false
def isSm : D → Bool
  | .str z => sgnIn "abcdefghijklmnopqrstuvwxyz" z
  | _ => false
def sgnF (r : Str) (most : Int) : D → Bool
  | .str z => sgnIn r z && (decide (1 ≤ (z.length : Int)) && decide ((z.length : Int) ≤ most))
  | _ => false
def isWd : D → Bool
  | .tup [a, b, c, d] => sgnF "abcdefghijklmnopqrstuvwxyz" 40 a && (sgnF "ABCDEFGHIJKLMNOPQRSTUVWXYZ" 12 b && (isCnt c && isCnt d))
  | _ => false
abbrev NN : Nat := 1000000
/-- told without a change -/
def tells (f : D → Bool) : SpD := fun ds s Q _ => ∃ x, ds = [x] ∧ szB NN x = true ∧ Q (.bl (f x)) s
theorem mono_tells {f : D → Bool} : MonoSp (tells f) := fun _ _ _ _ _ _ g _ ⟨x, h1, h2, q⟩ => ⟨x, h1, h2, g _ _ q⟩
theorem len_tells {f : D → Bool} {p : Str} : ∀ ds s Q E, tells f ds s Q E → ds.length = [p].length := fun _ _ _ _ ⟨x, h1, _⟩ => by rw [h1]; rfl
def sp_is_count : SpD := tells isCnt
def sp_is_small : SpD := tells isSm
def sp_is_reading : SpD := tells (sgnF "abcdefghijklmnopqrstuvwxyz" 40)
def sp_is_writing : SpD := tells (sgnF "ABCDEFGHIJKLMNOPQRSTUVWXYZ" 12)
def sp_is_word : SpD := tells isWd
theorem mono_is_count : MonoSp sp_is_count := mono_tells
theorem len_is_count : ∀ ds s Q E, sp_is_count ds s Q E → ds.length = ["thing"].length := len_tells (p := "thing")
theorem mono_is_small : MonoSp sp_is_small := mono_tells
theorem len_is_small : ∀ ds s Q E, sp_is_small ds s Q E → ds.length = ["thing"].length := len_tells (p := "thing")
theorem mono_is_reading : MonoSp sp_is_reading := mono_tells
theorem len_is_reading : ∀ ds s Q E, sp_is_reading ds s Q E → ds.length = ["thing"].length := len_tells (p := "thing")
theorem mono_is_writing : MonoSp sp_is_writing := mono_tells
theorem len_is_writing : ∀ ds s Q E, sp_is_writing ds s Q E → ds.length = ["thing"].length := len_tells (p := "thing")
theorem mono_is_word : MonoSp sp_is_word := mono_tells
theorem len_is_word : ∀ ds s Q E, sp_is_word ds s Q E → ds.length = ["thing"].length := len_tells (p := "thing")
def b_is_count : SD := (dRet (dAndV (dUn (isiF "int") (dVar 0)) (dAndV (dNotV (dUn (isiF "bool") (dVar 0))) (dBin (oF geF) (dVar 0) (dC (.int 0))))))
def b_is_small : SD := (dRet (dAndV (dUn (isiF "str") (dVar 0)) (dCB allF (dCons (dLc (iW (dVar 0)) (CT.g (.one 1)) dYes (dBin (oOr (oInS id) (oIn id)) (dVar 1) (dC (.str "abcdefghijklmnopqrstuvwxyz"))) [1]) dNil))))
def b_is_reading : SD := (dRet (dAndV (dCall sp_is_small [] (dCons (dVar 0) dNil)) (dChain (oF leF) (oF leF) (dC (.int 1)) (dCB lenF (dCons (dVar 0) dNil)) (dC (.int 40)))))
def b_is_writing : SD := (dRet (dAndV (dUn (isiF "str") (dVar 0)) (dAndV (dChain (oF leF) (oF leF) (dC (.int 1)) (dCB lenF (dCons (dVar 0) dNil)) (dC (.int 12))) (dCB allF (dCons (dLc (iW (dVar 0)) (CT.g (.one 1)) dYes (dBin (oOr (oInS id) (oIn id)) (dVar 1) (dC (.str "ABCDEFGHIJKLMNOPQRSTUVWXYZ"))) [1]) dNil)))))
def b_is_word : SD := (dSeq (dIfS (dOr (dNot (dTest (dUn (isiF "tuple") (dVar 0)))) (dTest (dBin (oF neF) (dCB lenF (dCons (dVar 0) dNil)) (dC (.int 4))))) (dRet (dC (.bl false))) dNext)
  (dSeq (dAsg (dVar 0) (gTs [1, 2, 3, 4]))
  (dRet (dAndV (dCall sp_is_reading [] (dCons (dVar 1) dNil)) (dAndV (dCall sp_is_writing [] (dCons (dVar 2) dNil)) (dAndV (dCall sp_is_count [] (dCons (dVar 3) dNil)) (dCall sp_is_count [] (dCons (dVar 4) dNil))))))))
theorem nn_line {z : Str} (h : szB NN (.str z) = true) : z.length ≤ sizeLine := by
  rw [sz_str] at h
  have : sizeLine = 16777216 := sizeLine_eq
  have : NN = 1000000 := rfl
  omega
theorem chain_len {env : En} {s : Sto} {Q : D → Sto → Prop} {i : Nat} {z : Str} {lo hi : Int} (h : env[i]? = some (some (.str z))) (q : Q (.bl (decide (lo ≤ (z.length : Int)) && decide ((z.length : Int) ≤ hi))) s) :
    dChain (oF leF) (oF leF) (dC (.int lo)) (dCB lenF (dCons (dVar i) dNil)) (dC (.int hi)) env s Q := by
  refine ⟨_, h, _, rfl, _, rfl, _, rfl, ?_⟩
  show if decide (lo ≤ (z.length : Int)) = true then _ else _
  by_cases c : lo ≤ (z.length : Int)
  · rw [if_pos (decide_eq_true c)]
    rw [decide_eq_true c, Bool.true_and] at q
    exact ⟨_, rfl, q⟩
  · rw [if_neg (by rw [decide_eq_false c]; exact Bool.false_ne_true)]
    rw [decide_eq_false c, Bool.false_and] at q
    exact q
/-- and, as a value, of what is told -/
theorem andV_bl {ta tb : ED} {env : En} {s : Sto} {Q : D → Sto → Prop} {a : Bool} {b : Bool} (ha : ∀ P : D → Sto → Prop, P (.bl a) s → ta env s P) (hb : a = true → ∀ P : D → Sto → Prop, P (.bl b) s → tb env s P) (q : Q (.bl (a && b)) s) : dAndV ta tb env s Q := by
  refine ha _ ⟨a, rfl, ?_⟩
  cases a with
  | true => rw [if_pos rfl]; exact hb rfl _ q
  | false => exact q
section
variable (ds : List D) (s : Sto) (Q : D → Sto → Prop) (E : XD)
theorem pf_is_count (h : sp_is_count ds s Q E) : b_is_count (endsOf Q) (envD ["thing"] ds) s := by
  obtain ⟨x, rfl, hx, q⟩ := h
  cases x <;> simp_all [b_is_count, envD, isiF, isSub, isCnt, szB]
theorem pf_is_small (h : sp_is_small ds s Q E) : b_is_small (endsOf Q) (envD ["thing", "sign"] ds) s := by
  obtain ⟨x, rfl, hx, q⟩ := h
  cases x with
  | str z =>
    refine ⟨_, rfl, _, rfl, true, rfl, ?_⟩
    rw [if_pos rfl]
    exact all_signs (nn_line hx) rfl (Nat.lt_succ_self 1) q
  | frl _ => cases hx
  | ref _ => cases hx
  | exc _ _ _ => cases hx
  | _ => exact ⟨_, rfl, _, rfl, false, rfl, q⟩
theorem pf_is_reading (h : sp_is_reading ds s Q E) : b_is_reading (endsOf Q) (envD ["thing"] ds) s := by
  obtain ⟨x, rfl, hx, q⟩ := h
  cases x with
  | str z => exact andV_bl (fun P p => ⟨_, rfl, _, rfl, hx, p⟩) (fun _ P p => chain_len rfl p) q
  | frl _ => cases hx
  | ref _ => cases hx
  | exc _ _ _ => cases hx
  | _ => exact ⟨_, rfl, _, rfl, hx, false, rfl, q⟩
theorem pf_is_writing (h : sp_is_writing ds s Q E) : b_is_writing (endsOf Q) (envD ["thing", "sign"] ds) s := by
  obtain ⟨x, rfl, hx, q⟩ := h
  cases x with
  | str z =>
    refine andV_bl (a := true) (b := (decide (1 ≤ (z.length : Int)) && decide ((z.length : Int) ≤ 12)) && sgnIn "ABCDEFGHIJKLMNOPQRSTUVWXYZ" z) (fun P p => ⟨_, rfl, _, rfl, p⟩) (fun _ P p => andV_bl (fun P p => chain_len rfl p) (fun _ P p => all_signs (nn_line hx) rfl (Nat.lt_succ_self 1) p) p) ?_
    rw [Bool.true_and, Bool.and_comm]
    exact q
  | frl _ => cases hx
  | ref _ => cases hx
  | exc _ _ _ => cases hx
  | _ => exact ⟨_, rfl, _, rfl, false, rfl, q⟩
theorem pf_is_word (h : sp_is_word ds s Q E) : b_is_word (endsOf Q) (envD ["thing", "reading", "writing", "cost", "kind"] ds) s := by
  obtain ⟨x, rfl, hx, q⟩ := h
  cases x with
  | tup xs =>
    obtain ⟨_, hxs⟩ := sz_tup.mp hx
    by_cases h4 : ∃ a b c d, xs = [a, b, c, d]
    · obtain ⟨a, b, c, d, rfl⟩ := h4
      refine ⟨_, rfl, _, rfl, _, rfl, _, rfl, _, rfl, _, rfl, _, rfl, ?_⟩
      have e : ∀ y ∈ [a, b, c, d], szB NN y = true := hxs
      refine ⟨_, rfl, _, rfl, rfl, ?_⟩
      simp only [r_ret, r_endsR]
      exact andV_bl (fun P p => ⟨_, rfl, _, rfl, e a (by simp), p⟩) (fun _ P p => andV_bl (fun P p => ⟨_, rfl, _, rfl, e b (by simp), p⟩) (fun _ P p => andV_bl (fun P p => ⟨_, rfl, _, rfl, e c (by simp), p⟩) (fun _ P p => ⟨_, rfl, _, rfl, e d (by simp), p⟩) p) p) q
    · have hl : xs.length ≠ 4 := fun h => h4 (by
        match xs, h with
        | [a, b, c, d], _ => exact ⟨a, b, c, d, rfl⟩)
      have hw : isWd (.tup xs) = false := by
        unfold isWd
        split
        · rename_i h; cases h; exact absurd ⟨_, _, _, _, rfl⟩ h4
        · rfl
      rw [hw] at q
      have hl' : (!(((xs.length : Nat) : Int) == 4)) = true := by
        have : ¬ ((xs.length : Nat) : Int) = 4 := by omega
        simp [this]
      refine ⟨_, rfl, _, rfl, _, rfl, _, rfl, _, rfl, _, ne_ii, _, rfl, ?_⟩
      rw [hl']
      exact q
  | frl _ => cases hx
  | ref _ => cases hx
  | exc _ _ _ => cases hx
  | _ => exact ⟨_, rfl, _, rfl, _, rfl, q⟩
end
end Bk
set_option Elab.async false
set_option linter.all false
set_option autoImplicit false
set_option maxRecDepth 100000
set_option maxHeartbeats 4000000
namespace Fa
open PySem PySem.Spec PyProof.Rows L2 Dl Bk
/-- the store: the great numbers, the pot, the rest -/
abbrev P2 (xs : List Int) (st n : Int) (tl : Sto) : Sto := some (.lst (xs.map D.int)) :: some (.lst [.ref 0, .int st, .int n]) :: tl
def StT (b : Int) (tl s : Sto) : Prop := ∃ xs st n, s = P2 xs st n tl ∧ 0 ≤ st ∧ st < 618970019642690137449562111 ∧ 0 ≤ n ∧ n ≤ b
theorem StT.up {b c : Int} {tl s : Sto} (h : StT b tl s) (hc : b ≤ c) : StT c tl s := by
  obtain ⟨xs, st, n, h1, h2, h3, h4, h5⟩ := h
  exact ⟨xs, st, n, h1, h2, h3, h4, by omega⟩
def sp__law_pot : SpD := fun ds s Q _ => ∃ ns : List Int, ds = [.frl (ns.map .int)] ∧ ns.length ≤ 63 ∧ (∀ z ∈ ns, Builtin.Int.intBits z ≤ 1048576) ∧ s = [] ∧ ∀ s', StT 0 [] s' → Q (.ref 1) s'
def sp__law_dip : SpD := fun ds s Q _ => ∃ b tl many, ds = [.ref 1, .int many] ∧ StT b tl s ∧ b ≤ 1000000000 ∧ 1 ≤ many ∧ many ≤ 1000000000 ∧ ∀ i s', 0 ≤ i → i < many → StT (b + 1) tl s' → Q (.int i) s'
end Fa
set_option Elab.async false
set_option linter.all false
set_option autoImplicit false
set_option maxRecDepth 100000
set_option maxHeartbeats 4000000
namespace Fa
open PySem PySem.Spec PyProof.Rows L2 Dl Bk
def strL (l : List Nat) : Str := ⟨l.toArray⟩
theorem cps_append (a b : Str) : (a ++ b).cps.toList = a.cps.toList ++ b.cps.toList := by
  show (a.cps ++ b.cps).toList = _
  exact Array.toList_append
theorem join_cps : ∀ ys : List Str, (Str.join "" ys).cps.toList = ys.flatMap (·.cps.toList)
  | [] => rfl
  | [x] => by simp [Str.join]
  | x :: y :: r => by
    have e : Str.join "" (x :: y :: r) = x ++ "" ++ Str.join "" (y :: r) := rfl
    rw [e, cps_append, cps_append, join_cps (y :: r)]
    have : (Str.ofString "").cps.toList = [] := rfl
    rw [this, List.append_nil]
    rfl
theorem txt_join_cps (ys : List Str) : (Txt.join "" ys).cps.toList = ys.flatMap (·.cps.toList) := by
  rw [show Txt.join "" ys = Str.join "" ys from PySem.StrLaws.glued_eq_join _ _, join_cps]
theorem txt_join_signs (cs : List Nat) : Txt.join "" (cs.map fun c => (⟨#[c]⟩ : Str)) = strL cs := by
  have h := txt_join_cps (cs.map fun c => (⟨#[c]⟩ : Str))
  have e : (cs.map fun c => (⟨#[c]⟩ : Str)).flatMap (·.cps.toList) = cs := by
    induction cs with
    | nil => rfl
    | cons c cs ih => rw [List.map_cons, List.flatMap_cons, ih (txt_join_cps _)]; rfl
  rw [e] at h
  cases hx : Txt.join "" (cs.map fun c => (⟨#[c]⟩ : Str)) with
  | mk a =>
    rw [hx] at h
    unfold strL
    congr 1
    apply Array.ext'
    rw [h]
theorem strL_length (l : List Nat) : (strL l).length = l.length := by simp [strL, Str.length]
theorem strL_cps (l : List Nat) : (strL l).cps.toList = l := rfl
theorem fapp {xs : List D} {y : D} (h : xs.length < sizeLine) : fAppend xs [y] = some (.non, xs ++ [y]) := by
  show (if xs.length < sizeLine then _ else _) = _
  rw [if_pos h]
def b__law_pot : SD := (dSeq (dAsg (dNew dNil) (gN 1))
  (dSeq (dAsg (dC (.int 12157665459056928801)) (gN 2))
  (dSeq (dFor (iW (dSl (dVar 0) dNoP (dP (dC (.int 63))))) (gN 3) (dIfS (dTest (dBin (oF geF) (dVar 3) (dBin oPow (dC (.int 10)) (dC (.int 18))))) (dDrop (dMt fAppend (dVar 1) (dCons (dBin (oF subF) (dVar 3) (dBin oPow (dC (.int 10)) (dC (.int 18)))) dNil))) (dAsg (dBin oMod (dBin oPow (dBin (oF addF) (dBin (oF addF) (dBin (oF addF) (dVar 2) (dBin oMul (dC (.int 2)) (dCB absF (dCons (dVar 3) dNil)))) (dCB intF (dCons (dBin (oF ltF) (dVar 3) (dC (.int 0))) dNil))) (dC (.int 1))) (dC (.int 5))) (dC (.int 618970019642690137449562111))) (gN 2))))
  (dRet (dNew (dCons (dVar 1) (dCons (dVar 2) (dCons (dC (.int 0)) dNil))))))))
section
variable (ds : List D) (s : Sto) (Q : D → Sto → Prop) (E : XD)
theorem mono__law_pot : MonoSp sp__law_pot := fun _ _ _ _ _ _ f _ ⟨ns, h1, h2, h3, h4, h5⟩ => ⟨ns, h1, h2, h3, h4, fun s' a => f _ _ (h5 s' a)⟩
theorem len__law_pot : ∀ ds s Q E, sp__law_pot ds s Q E → ds.length = ["script"].length := fun _ _ _ _ ⟨_, h, _⟩ => by rw [h]; rfl
theorem pow10 : (10 : Int) ^ (18 : Int).toNat = 1000000000000000000 := by decide
theorem powOk10 {j : Int} (h : 2 ≤ j) (h2 : j ≤ 1000000) : PowOk 10 j := powOk_of (m := 4) (by decide) h (by omega)
theorem pf__law_pot (h : sp__law_pot ds s Q E) : b__law_pot (endsOf Q) (envD ["script", "great", "stir", "cell"] ds) s := by
  obtain ⟨ns, rfl, hn, hb, rfl, q⟩ := h
  refine ⟨Nat.zero_le _, ?_⟩
  refine ⟨_, rfl, _, rfl, _, rfl, ?_⟩
  refine ⟨_, _, isW_lst, ?_⟩
  refine forD_run (fun rest env s => ∃ (ms xs : List Int) (st : Int) (c : Option D), rest = ms.map .int ∧ env = [some (.frl (ns.map .int)), some (.ref 0), some (.int st), c] ∧ s = [some (.lst (xs.map .int))] ∧ xs.length + ms.length ≤ 63 ∧ (∀ z ∈ ms, Builtin.Int.intBits z ≤ 1048576) ∧ 0 ≤ st ∧ st < 618970019642690137449562111) ?_ ?_ ?_
  · rintro d rest env s ⟨ms, xs, st, c, e1, rfl, rfl, hl, hm, s0, s1⟩ N hN
    cases ms with
    | nil => cases e1
    | cons m ms =>
      rw [List.map_cons] at e1
      cases e1
      rw [List.length_cons] at hl
      have hm0 := hm m List.mem_cons_self
      have hm' : ∀ z ∈ ms, Builtin.Int.intBits z ≤ 1048576 := fun z hz => hm z (List.mem_cons_of_mem _ hz)
      refine ⟨trivial, ?_⟩
      refine ⟨_, rfl, _, _, rfl, rfl, powOk10 (by decide) (by decide), _, rfl, _, rfl, ?_⟩
      show if decide ((10 : Int) ^ (18 : Int).toNat ≤ m) = true then _ else _
      rw [pow10]
      by_cases hc : (1000000000000000000 : Int) ≤ m
      · rw [if_pos (decide_eq_true hc)]
        refine ⟨_, rfl, _, _, rfl, rfl, _, rfl, _, _, rfl, rfl, powOk10 (by decide) (by decide), _, rfl, ?_⟩
        have hz : (xs.map D.int).length < sizeLine := by rw [List.length_map, sizeLine_eq]; omega
        refine ⟨_, _, _, rfl, fapp hz, hN _ _ ⟨ms, xs ++ [m - 10 ^ (18 : Int).toNat], st, _, rfl, rfl, ?_, ?_, hm', s0, s1⟩⟩
        · rw [List.map_append]; rfl
        · rw [List.length_append]; simp; omega
      · rw [if_neg (by rw [decide_eq_false hc]; exact Bool.false_ne_true)]
        have ha : Builtin.Int.intBits (if m < 0 then -m else m) ≤ 1048576 := by
          split
          · exact intBits_neg_le hm0
          · exact hm0
        refine ⟨_, rfl, _, rfl, _, rfl, .inl ⟨_, _, rfl, rfl, IntMulOk.of_left (by decide), _, rfl, _, rfl, _, rfl, _, rfl, _, rfl, _, rfl, _, _, rfl, rfl, ?_⟩⟩
        have h2 : Builtin.Int.intBits (2 * (if m < 0 then -m else m)) ≤ 2 + 1048576 := intBits_mul_le (by decide) ha
        have h0 : Builtin.Int.intBits st ≤ 100 := intBits_le_iff.mpr (by omega)
        have h3 := intBits_add_le h0 h2
        have h4 : Builtin.Int.intBits (b2n (decide (m < 0))) ≤ 1 := by
          by_cases hm : m < 0
          · rw [decide_eq_true hm]; decide
          · rw [decide_eq_false hm]; decide
        have h5 := intBits_add_le (intBits_add_le h3 h4) (show Builtin.Int.intBits 1 ≤ 1 by decide)
        refine ⟨powOk_of h5 (by decide) (by decide), ?_⟩
        refine ⟨_, _, rfl, rfl, (show (0 : Int) < 618970019642690137449562111 by decide), ?_⟩
        refine hN _ _ ⟨ms, xs, _, _, rfl, rfl, rfl, by omega, hm', Int.emod_nonneg _ (by decide), Int.emod_lt_of_pos _ (by decide)⟩
  · rintro env s ⟨ms, xs, st, c, e1, rfl, rfl, hl, hm, s0, s1⟩
    refine ⟨trivial, ?_⟩
    refine ⟨_, rfl, _, rfl, le_line (show 3 ≤ 1000000 by decide), ?_⟩
    exact q _ ⟨xs, st, 0, rfl, s0, s1, by decide, by decide⟩
  · refine ⟨ns, [], _, none, ?_, rfl, rfl, by simpa using hn, hb, by decide, by decide⟩
    rw [cutD_to (by decide)]
    rw [List.take_of_length_le]
    rw [List.length_map]; exact hn
end
/-- its text: signs of z, one to most -/
def sp__law_text : SpD := fun ds s Q _ => ∃ b tl z most, ds = [.ref 1, .str z, .int most] ∧ StT b tl s ∧ b ≤ 100000000 ∧ 1 ≤ z.length ∧ z.length ≤ 1000 ∧ 1 ≤ most ∧ most ≤ 1000 ∧ ∀ (l : List Nat) s', 1 ≤ l.length → (l.length : Int) ≤ most → (∀ c ∈ l, c ∈ z.cps.toList) → StT (b + 1010) tl s' → Q (.str (strL l)) s'
def sp__law_cost : SpD := fun ds s Q _ => ∃ b tl, ds = [.ref 1] ∧ StT b tl s ∧ b ≤ 100000000 ∧ ∀ i s', 0 ≤ i → i < 1000000000000 → StT (b + 10) tl s' → Q (.int i) s'
def b__law_cost : SD := (dRet (dBin (oF idxF) (dLst (dCons (dCall sp__law_dip [] (dCons (dVar 0) (dCons (dC (.int 4)) dNil))) (dCons (dCall sp__law_dip [] (dCons (dVar 0) (dCons (dC (.int 60)) dNil))) (dCons (dCall sp__law_dip [] (dCons (dVar 0) (dCons (dC (.int 3000)) dNil))) (dCons (dBin (oF subF) (dBin (oF subF) (dBin oPow (dC (.int 10)) (dC (.int 12))) (dC (.int 1))) (dCall sp__law_dip [] (dCons (dVar 0) (dCons (dC (.int 3)) dNil)))) dNil))))) (dCall sp__law_dip [] (dCons (dVar 0) (dCons (dC (.int 4)) dNil)))))
section
variable (ds : List D) (s : Sto) (Q : D → Sto → Prop) (E : XD)
theorem mono__law_cost : MonoSp sp__law_cost := fun _ _ _ _ _ _ f _ ⟨b, tl, h1, h2, h3, h⟩ => ⟨b, tl, h1, h2, h3, fun l s' a1 a2 a3 => f _ _ (h l s' a1 a2 a3)⟩
theorem len__law_cost : ∀ ds s Q E, sp__law_cost ds s Q E → ds.length = ["pot"].length := fun _ _ _ _ ⟨_, _, h, _⟩ => by rw [h]; rfl
theorem three {α : Type} {a b c : α} {i : Int} (h0 : 0 ≤ i) (h1 : i < 3) : ∃ x, atI [a, b, c] i = some x ∧ (x = a ∨ x = b ∨ x = c) := by
  obtain ⟨x, h, m⟩ := atI_mem (xs := [a, b, c]) h0 (by simpa using h1)
  exact ⟨x, h, by simpa using m⟩
theorem pf__law_cost (h : sp__law_cost ds s Q E) : b__law_cost (endsOf Q) (envD ["pot"] ds) s := by
  obtain ⟨b, tl, rfl, S, hb, q⟩ := h
  refine ⟨_, rfl, b, tl, 4, rfl, S, by omega, by decide, by decide, fun i s1 i0 i1 S1 => ?_⟩
  refine ⟨_, rfl, _, _, 60, rfl, S1, by omega, by decide, by decide, fun j s2 j0 j1 S2 => ?_⟩
  refine ⟨_, rfl, _, _, 3000, rfl, S2, by omega, by decide, by decide, fun k s3 k0 k1 S3 => ?_⟩
  refine ⟨_, _, rfl, rfl, powOk10 (by decide) (by decide), _, rfl, _, rfl, _, _, 3, rfl, S3, by omega, by decide, by decide, fun l s4 l0 l1 S4 => ?_⟩
  refine ⟨_, rfl, le_line (show 4 ≤ 1000000 by decide), ?_⟩
  refine ⟨_, rfl, _, _, 4, rfl, S4, by omega, by decide, by decide, fun m s5 m0 m1 S5 => ?_⟩
  obtain ⟨x, hx, hm⟩ := atI_mem (xs := [D.int i, .int j, .int k, .int ((10 : Int) ^ (12 : Int).toNat - 1 - l)]) m0 (by simpa using m1)
  refine ⟨x, hx, ?_⟩
  have e : (10 : Int) ^ (12 : Int).toNat = 1000000000000 := by decide
  rw [e] at hm
  have hx' : ∃ n : Int, x = .int n ∧ 0 ≤ n ∧ n < 1000000000000 := by
    rcases (by simpa using hm : x = .int i ∨ x = .int j ∨ x = .int k ∨ x = .int (1000000000000 - 1 - l)) with rfl | rfl | rfl | rfl
    · exact ⟨_, rfl, by omega, by omega⟩
    · exact ⟨_, rfl, by omega, by omega⟩
    · exact ⟨_, rfl, by omega, by omega⟩
    · exact ⟨_, rfl, by omega, by omega⟩
  obtain ⟨n, rfl, n0, n1⟩ := hx'
  exact q n s5 n0 n1 (S5.up (by omega))
end
end Fa
set_option Elab.async false
set_option linter.all false
set_option autoImplicit false
set_option maxRecDepth 100000
set_option maxHeartbeats 4000000
namespace Fa
open PySem PySem.Spec PyProof.Rows L2 Dl Bk
section
variable (ds : List D) (s : Sto) (Q : D → Sto → Prop) (E : XD)
theorem two {α : Type} {a b : α} {i : Int} (h0 : 0 ≤ i) (h1 : i < 2) : ∃ x, atI [a, b] i = some x ∧ (x = a ∨ x = b) := by
  obtain ⟨x, h, m⟩ := atI_mem (xs := [a, b]) h0 (by simpa using h1)
  exact ⟨x, h, by simpa using m⟩
/-- sequences of a kind: cut and joined -/
structure Kd (α : Type) (c : List α → D) : Prop where
  hs : ∀ s xs i j, sliceF s (c xs) i j = some (c (cutD xs i j))
  ha : ∀ s a b, a.length + b.length ≤ sizeLine → addF s (c a) (c b) = some (c (a ++ b))
theorem strL_app (a b : List Nat) : strL a ++ strL b = strL (a ++ b) := by
  show (⟨a.toArray ++ b.toArray⟩ : Str) = ⟨(a ++ b).toArray⟩
  congr 1
  simp
theorem str_eq (z : Str) : z = strL z.cps.toList := by
  unfold strL
  simp
theorem ifT {A B : Prop} (h : A) : if true = true then A else B := h
theorem ifF {A B : Prop} (h : B) : if false = true then A else B := h
theorem ifD {c : Prop} [Decidable c] {A B : Prop} (ht : c → A) (hf : ¬ c → B) : if decide c = true then A else B := by
  by_cases h : c
  · rw [if_pos (decide_eq_true h)]; exact ht h
  · rw [if_neg (by rw [decide_eq_false h]; exact Bool.false_ne_true)]; exact hf h
theorem ifB {c : Bool} {A B : Prop} (ht : c = true → A) (hf : c = false → B) : if c = true then A else B := by
  cases c with
  | true => exact ht rfl
  | false => exact hf rfl
end
end Fa
set_option Elab.async false
set_option linter.all false
set_option autoImplicit false
set_option maxRecDepth 100000
set_option maxHeartbeats 4000000
namespace Fa
open PySem PySem.Spec PyProof.Rows L2 Dl Bk
end Fa
set_option Elab.async false
set_option linter.all false
set_option autoImplicit false
set_option maxRecDepth 100000
set_option maxHeartbeats 4000000
namespace Bk
open PySem PySem.Spec PyProof.Rows L2 Dl Fa
def rowOk (n : Nat) : D → Bool
  | .lst js => decide (js.length = n) && js.all isCnt
  | _ => false
def isJn : D → Bool
  | .lst rows => !decide (rows = []) && rows.all (rowOk rows.length)
  | _ => false
def kindOf : D → Int
  | .tup [_, _, _, .int k] => k
  | _ => 0
def pairK : D → List Key
  | .tup (.str r :: .str w :: _) => [.inr r, .inr w]
  | _ => []
def dictOf (ws : List D) : List (List Key × D) := ws.foldl (fun acc w => putP acc (pairK w) (.bl true)) []
def isBk2 (ws : List D) : D → Bool
  | .lst rows => ws.all (fun w => decide (kindOf w < (rows.length : Int) - 1)) && decide ((dictOf ws).length = ws.length)
  | _ => false
def isBk : D → Bool
  | .tup [.lst ws, j] => ws.all isWd && (isJn j && isBk2 ws j)
  | _ => false
def sp_are_joins : SpD := tells isJn
def sp_is_book : SpD := tells isBk
def sp_need_both : SpD := fun ds s Q _ => ∃ x r, ds = [x, r] ∧ szB NN x = true ∧ isBk x = true ∧ szB NN r = true ∧ sgnF "abcdefghijklmnopqrstuvwxyz" 40 r = true ∧ Q .non s
theorem mono_are_joins : MonoSp sp_are_joins := mono_tells
theorem len_are_joins : ∀ ds s Q E, sp_are_joins ds s Q E → ds.length = ["thing"].length := len_tells (p := "thing")
theorem mono_is_book : MonoSp sp_is_book := mono_tells
theorem len_is_book : ∀ ds s Q E, sp_is_book ds s Q E → ds.length = ["thing"].length := len_tells (p := "thing")
theorem mono_need_both : MonoSp sp_need_both := fun _ _ _ _ _ _ f _ ⟨x, r, h1, h2, h3, h4, h5, h⟩ => ⟨x, r, h1, h2, h3, h4, h5, f _ _ h⟩
theorem len_need_both : ∀ ds s Q E, sp_need_both ds s Q E → ds.length = ["book", "reading"].length := fun _ _ _ _ ⟨_, _, h, _⟩ => by rw [h]; rfl
def b_are_joins : SD := (dSeq (dIfS (dOr (dNot (dTest (dUn (isiF "list") (dVar 0)))) (dTest (dBin (oF eqF) (dVar 0) (dLst dNil)))) (dRet (dC (.bl false))) dNext)
  (dSeq (dFor (iW (dVar 0)) (gN 1) (dIfS (dOr (dNot (dTest (dUn (isiF "list") (dVar 1)))) (dOr (dTest (dBin (oF neF) (dCB lenF (dCons (dVar 1) dNil)) (dCB lenF (dCons (dVar 0) dNil)))) (dNot (dTest (dCB allF (dCons (dLc (iW (dVar 1)) (CT.g (.one 2)) dYes (dCall sp_is_count [] (dCons (dVar 2) dNil)) [2]) dNil)))))) (dRet (dC (.bl false))) dNext))
  (dRet (dC (.bl true)))))
def b_is_book : SD := (dSeq (dIfS (dOr (dNot (dTest (dUn (isiF "tuple") (dVar 0)))) (dTest (dBin (oF neF) (dCB lenF (dCons (dVar 0) dNil)) (dC (.int 2))))) (dRet (dC (.bl false))) dNext)
  (dSeq (dAsg (dVar 0) (gTs [1, 2]))
  (dSeq (dIfS (dOr (dNot (dTest (dUn (isiF "list") (dVar 1)))) (dOr (dNot (dTest (dCB allF (dCons (dLc (iW (dVar 1)) (CT.g (.one 3)) dYes (dCall sp_is_word [] (dCons (dVar 3) dNil)) [3]) dNil)))) (dNot (dTest (dCall sp_are_joins [] (dCons (dVar 2) dNil)))))) (dRet (dC (.bl false))) dNext)
  (dSeq (dIfS (dNot (dTest (dCB allF (dCons (dLc (iW (dVar 1)) (CT.g (.one 3)) dYes (dBin (oF ltF) (dBin (oF idxF) (dVar 3) (dC (.int 3))) (dBin (oF subF) (dCB lenF (dCons (dVar 2) dNil)) (dC (.int 1)))) [3]) dNil)))) (dRet (dC (.bl false))) dNext)
  (dRet (dBin (oF eqF) (dCB lenF (dCons (dDc (iW (dVar 1)) (CT.g (.one 3)) dYes (dSl (dVar 3) dNoP (dP (dC (.int 2)))) (dC (.bl true)) [3]) dNil)) (dCB lenF (dCons (dVar 1) dNil))))))))
def b_need_both : SD := (dSeq (dIfS (dNot (dTest (dCall sp_is_book [] (dCons (dVar 0) dNil)))) dNever dNext)
  (dIfS (dNot (dTest (dCall sp_is_reading [] (dCons (dVar 1) dNil)))) dNever dNext))
/-- all of a list, each told without a change -/
theorem all_tells {env : En} {s : Sto} {Q : D → Sto → Prop} {te : ED} {i j : Nat} {xs : List D} (f : D → Bool) (hi : env[i]? = some (some (.lst xs))) (hl : xs.length ≤ NN) (hte : ∀ d ∈ xs, ∀ P : D → Sto → Prop, P (.bl (f d)) s → te ((wipeE env [j]).set j (some d)) s P)
    (q : Q (.bl (xs.all f)) s) : dCB allF (dCons (dLc (iW (dVar i)) (CT.g (.one j)) dYes te [j]) dNil) env s Q := by
  refine ⟨_, hi, _, _, isW_lst, le_line hl, ?_⟩
  refine lcD_pure (fun _ => true) (fun d => .bl (f d)) trivial (fun d hd k1 k0 h1 h0 => hte d hd _ (h1 rfl)) ?_
  refine ⟨.bl (xs.all f), ?_, q⟩
  rw [List.filter_eq_self.mpr (fun _ _ => rfl)]
  have e : xs.map (fun d => D.bl (f d)) = (xs.map f).map D.bl := by rw [List.map_map]; rfl
  rw [e, all_l, List.all_map]
  rfl
section
variable (ds : List D) (s : Sto) (Q : D → Sto → Prop) (E : XD)
theorem pf_need_both (h : sp_need_both ds s Q E) : b_need_both (endsOf Q) (envD ["book", "reading"] ds) s := by
  obtain ⟨x, r, rfl, hx, hb, hr, hr2, q⟩ := h
  refine ⟨_, rfl, x, rfl, hx, _, rfl, ?_⟩
  rw [hb]
  refine ⟨_, rfl, r, rfl, hr, _, rfl, ?_⟩
  rw [hr2]
  exact q
theorem pf_are_joins (h : sp_are_joins ds s Q E) : b_are_joins (endsOf Q) (envD ["thing", "row", "join"] ds) s := by
  obtain ⟨x, rfl, hx, q⟩ := h
  cases x with
  | frl _ => cases hx
  | ref _ => cases hx
  | exc _ _ _ => cases hx
  | lst rows =>
    obtain ⟨hl, hm⟩ := sz_lst.mp hx
    refine ⟨_, rfl, _, rfl, _, rfl, _, rfl, ll, _, eq_l0, _, rfl, ifD (fun h0 => ?_) fun h0 => ?_⟩
    · subst h0; exact q
    refine ⟨_, rfl, _, _, isW_lst, ?_⟩
    refine forD_run (fun rest env s' => s' = s ∧ (∃ c, env = [some (.lst rows), c, none]) ∧ (∀ r ∈ rest, r ∈ rows) ∧ rows.all (rowOk rows.length) = rest.all (rowOk rows.length)) ?_ ?_ ?_
    · rintro r rest env s' ⟨rfl, ⟨c, rfl⟩, hr, e⟩ N hN
      rw [List.all_cons] at e
      have hjn : isJn (.lst rows) = rows.all (rowOk rows.length) := by
        show (!decide (rows = []) && rows.all (rowOk rows.length)) = _
        rw [decide_eq_false h0]; rfl
      rw [hjn, e] at q
      have hr0 := hr r List.mem_cons_self
      have szr := hm r hr0
      have on : rowOk rows.length r = true → N [some (.lst rows), some r, none] s' := fun ho => hN _ _ ⟨rfl, ⟨_, rfl⟩, fun y hy => hr y (List.mem_cons_of_mem _ hy), by rw [e, ho]; rfl⟩
      refine ⟨trivial, ?_⟩
      cases r with
      | frl _ => cases szr
      | ref _ => cases szr
      | exc _ _ _ => cases szr
      | lst js =>
        obtain ⟨hjl, hjm⟩ := sz_lst.mp szr
        refine ⟨_, rfl, _, rfl, _, rfl, _, rfl, _, rfl, _, rfl, _, rfl, _, ne_ii, _, rfl, ?_⟩
        by_cases hlen : js.length = rows.length
        · have e1 : (!(((js.length : Nat) : Int) == ((rows.length : Nat) : Int))) = false := by rw [hlen]; simp
          rw [e1]
          refine all_tells isCnt rfl hjl (fun d hd P p => ⟨_, rfl, d, rfl, hjm d hd, p⟩) ⟨_, rfl, ?_⟩
          have ho : rowOk rows.length (.lst js) = js.all isCnt := by
            show (decide (js.length = rows.length) && js.all isCnt) = _
            rw [decide_eq_true hlen]; rfl
          rw [ho] at on q
          cases hc : js.all isCnt with
          | true => exact on hc
          | false => rw [hc] at q; exact q
        · have e1 : (!(((js.length : Nat) : Int) == ((rows.length : Nat) : Int))) = true := by
            have : ¬ ((js.length : Nat) : Int) = ((rows.length : Nat) : Int) := by omega
            simp [this]
          rw [e1]
          have ho : rowOk rows.length (.lst js) = false := by
            show (decide (js.length = rows.length) && js.all isCnt) = _
            rw [decide_eq_false hlen]; rfl
          rw [ho] at q
          exact q
      | _ => exact ⟨_, rfl, _, rfl, _, rfl, q⟩
    · rintro env s' ⟨rfl, ⟨c, rfl⟩, _, e⟩
      have hjn : isJn (.lst rows) = true := by
        show (!decide (rows = []) && rows.all (rowOk rows.length)) = _
        rw [decide_eq_false h0, e]; rfl
      rw [hjn] at q
      exact ⟨trivial, q⟩
    · exact ⟨rfl, ⟨none, rfl⟩, fun _ h => h, rfl⟩
  | _ => exact ⟨_, rfl, _, rfl, _, rfl, q⟩
theorem isWd_shape {x : D} (h : isWd x = true) : ∃ r w c k, x = .tup [.str r, .str w, .int c, .int k] := by
  unfold isWd at h
  split at h
  · rename_i a b c d
    rw [Bool.and_eq_true, Bool.and_eq_true, Bool.and_eq_true] at h
    obtain ⟨h1, h2, h3, h4⟩ := h
    cases a <;> first | cases h1 | skip
    cases b <;> first | cases h2 | skip
    cases c <;> first | cases h3 | skip
    cases d <;> first | cases h4 | skip
    exact ⟨_, _, _, _, rfl⟩
  · cases h
theorem pf_is_book (h : sp_is_book ds s Q E) : b_is_book (endsOf Q) (envD ["thing", "words", "joins", "word"] ds) s := by
  obtain ⟨x, rfl, hx, q⟩ := h
  cases x with
  | frl _ => cases hx
  | ref _ => cases hx
  | exc _ _ _ => cases hx
  | tup xs =>
    obtain ⟨_, hxs⟩ := sz_tup.mp hx
    by_cases h2 : ∃ a b, xs = [a, b]
    · obtain ⟨a, b, rfl⟩ := h2
      have sa : szB NN a = true := hxs a (by simp)
      have sb : szB NN b = true := hxs b (by simp)
      refine ⟨_, rfl, _, rfl, _, rfl, _, rfl, _, rfl, _, rfl, _, rfl, ?_⟩
      refine ⟨_, rfl, _, rfl, rfl, ?_⟩
      cases a with
      | frl _ => cases sa
      | ref _ => cases sa
      | exc _ _ _ => cases sa
      | lst ws =>
        obtain ⟨wl, wm⟩ := sz_lst.mp sa
        have hbk : isBk (.tup [.lst ws, b]) = (ws.all isWd && (isJn b && isBk2 ws b)) := rfl
        rw [hbk] at q
        refine ⟨_, rfl, _, rfl, _, rfl, ?_⟩
        refine all_tells isWd rfl wl (fun d hd P p => ⟨_, rfl, d, rfl, wm d hd, p⟩) ⟨_, rfl, ?_⟩
        cases hw : ws.all isWd with
        | false => rw [hw] at q; exact q
        | true =>
          rw [hw] at q
          refine ⟨_, rfl, b, rfl, sb, _, rfl, ?_⟩
          cases hj : isJn b with
          | false => rw [hj] at q; exact q
          | true =>
            rw [hj] at q
            cases b with
            | lst rows =>
              have hb2 : isBk2 ws (.lst rows) = (ws.all (fun w => decide (kindOf w < (rows.length : Int) - 1)) && decide ((dictOf ws).length = ws.length)) := rfl
              rw [hb2] at q
              have hws : ∀ w ∈ ws, ∃ r z c k, w = .tup [.str r, .str z, .int c, .int k] := fun w h => isWd_shape (List.all_eq_true.mp hw w h)
              refine all_tells (fun w => decide (kindOf w < (rows.length : Int) - 1)) rfl wl (fun d hd P p => ?_) ⟨_, rfl, ?_⟩
              · obtain ⟨r, z, c, k, rfl⟩ := hws d hd
                exact ⟨_, rfl, _, rfl, _, rfl, _, rfl, _, rfl, _, rfl, p⟩
              cases hk : ws.all (fun w => decide (kindOf w < (rows.length : Int) - 1)) with
              | false => rw [hk] at q; exact q
              | true =>
                rw [hk] at q
                refine ⟨_, rfl, _, _, isW_lst, le_line wl, ?_⟩
                refine dcD_run (fun rest acc s' => s' = s ∧ (∀ w ∈ rest, w ∈ ws) ∧ rest.foldl (fun acc w => putP acc (pairK w) (.bl true)) acc = dictOf ws) ?_ ⟨rfl, fun _ h => h, rfl⟩ ?_
                · rintro d rest acc s' ⟨rfl, hr, e⟩ k1 h1
                  obtain ⟨r, z, c, k, rfl⟩ := hws d (hr d List.mem_cons_self)
                  refine ⟨trivial, _, rfl, _, rfl, _, rfl, _, _, rfl, rfl, h1 _ _ ⟨rfl, fun w h => hr w (List.mem_cons_of_mem _ h), e⟩⟩
                · rintro acc s' ⟨rfl, _, e⟩
                  refine ⟨trivial, _, rfl, _, rfl, _, rfl, _, eq_ii, ?_⟩
                  have e2 : acc = dictOf ws := e
                  subst e2
                  have e3 : ((((dictOf ws).map (·.1)).length : Int) == (ws.length : Int)) = decide ((dictOf ws).length = ws.length) := by
                    rw [List.length_map]
                    by_cases z : (dictOf ws).length = ws.length
                    · rw [decide_eq_true z, z]; simp
                    · rw [decide_eq_false z]
                      have : ¬ ((dictOf ws).length : Int) = (ws.length : Int) := by omega
                      simpa using this
                  rw [e3]
                  exact q
            | _ => cases hj
      | _ => exact ⟨_, rfl, _, rfl, _, rfl, q⟩
    · have hl : xs.length ≠ 2 := fun h => h2 (by
        match xs, h with
        | [a, b], _ => exact ⟨a, b, rfl⟩)
      have hw : isBk (.tup xs) = false := by
        unfold isBk
        split
        · rename_i h; cases h; exact absurd ⟨_, _, rfl⟩ h2
        · rfl
      rw [hw] at q
      have hl' : (!(((xs.length : Nat) : Int) == 2)) = true := by
        have : ¬ ((xs.length : Nat) : Int) = 2 := by omega
        simp [this]
      refine ⟨_, rfl, _, rfl, _, rfl, _, rfl, _, rfl, _, ne_ii, _, rfl, ?_⟩
      rw [hl']
      exact q
  | _ => exact ⟨_, rfl, _, rfl, _, rfl, q⟩
end
end Bk
set_option Elab.async false
set_option linter.all false
set_option autoImplicit false
set_option maxRecDepth 100000
set_option maxHeartbeats 4000000
namespace Bk
open PySem PySem.Spec PyProof.Rows L2 Dl Fa
abbrev az : Str := "abcdefghijklmnopqrstuvwxyz"
abbrev AZ : Str := "ABCDEFGHIJKLMNOPQRSTUVWXYZ"
structure WordOk (K : Int) (r w : Str) (c k : Int) : Prop where
  r1 : sgnIn az r = true
  r2 : 1 ≤ r.length
  r3 : r.length ≤ 40
  w1 : sgnIn AZ w = true
  w2 : 1 ≤ w.length
  w3 : w.length ≤ 12
  c1 : 0 ≤ c
  c2 : c ≤ 1000000000000
  k1 : 0 ≤ k
  k2 : k < K
def IsW (K : Int) (x : D) : Prop := ∃ r w c k, x = .tup [.str r, .str w, .int c, .int k] ∧ WordOk K r w c k
def IsRow (n : Nat) (x : D) : Prop := ∃ js : List Int, x = .lst (js.map .int) ∧ js.length = n ∧ ∀ j ∈ js, 0 ≤ j ∧ j ≤ 1000000000000
structure BookOk (m : Nat) (ws rows : List D) : Prop where
  wl : ws.length ≤ m
  ww : ∀ w ∈ ws, IsW ((rows.length : Int) - 1) w
  wd : (ws.map pairK).Nodup
  r0 : rows ≠ []
  rl : rows.length ≤ 20
  rr : ∀ r ∈ rows, IsRow rows.length r
theorem IsW.wd {K : Int} {x : D} (h : IsW K x) : isWd x = true := by
  obtain ⟨r, w, c, k, rfl, h⟩ := h
  show (sgnF _ 40 (.str r) && (sgnF _ 12 (.str w) && (isCnt (.int c) && isCnt (.int k)))) = true
  have e1 : sgnF az 40 (.str r) = true := by
    show (sgnIn az r && (decide (1 ≤ (r.length : Int)) && decide ((r.length : Int) ≤ 40))) = true
    rw [h.r1, decide_eq_true (by have := h.r2; omega), decide_eq_true (by have := h.r3; omega)]; rfl
  have e2 : sgnF AZ 12 (.str w) = true := by
    show (sgnIn AZ w && (decide (1 ≤ (w.length : Int)) && decide ((w.length : Int) ≤ 12))) = true
    rw [h.w1, decide_eq_true (by have := h.w2; omega), decide_eq_true (by have := h.w3; omega)]; rfl
  have e3 : isCnt (.int c) = true := decide_eq_true h.c1
  have e4 : isCnt (.int k) = true := decide_eq_true h.k1
  rw [e1, e2, e3, e4]; rfl
theorem IsW.sz {K : Int} {x : D} (h : IsW K x) (hK : K ≤ 1000) : szB 100 x = true := by
  obtain ⟨r, w, c, k, rfl, h⟩ := h
  have := h.r3; have := h.w3; have := h.c1; have := h.c2; have := h.k1; have := h.k2
  have hB : 1000000000000 ≤ big := by decide
  refine sz_tup.mpr ⟨by show 4 ≤ 100; decide, fun y hy => ?_⟩
  rcases (by simpa using hy : y = D.str r ∨ y = .str w ∨ y = .int c ∨ y = .int k) with rfl | rfl | rfl | rfl
  · rw [sz_str]; omega
  · rw [sz_str]; omega
  · rw [sz_int]; omega
  · rw [sz_int]; omega
theorem IsRow.sz {n : Nat} {x : D} (h : IsRow n x) (hn : n ≤ 100) : szB 100 x = true := by
  obtain ⟨js, rfl, h1, h2⟩ := h
  have hB : 1000000000000 ≤ big := by decide
  refine sz_lst.mpr ⟨by rw [List.length_map]; omega, fun y hy => ?_⟩
  obtain ⟨j, hj, rfl⟩ := List.mem_map.mp hy
  have := h2 j hj
  rw [sz_int]; omega
theorem IsRow.ok {n : Nat} {x : D} (h : IsRow n x) : rowOk n x = true := by
  obtain ⟨js, rfl, h1, h2⟩ := h
  show (decide ((js.map D.int).length = n) && (js.map D.int).all isCnt) = true
  rw [decide_eq_true (by rw [List.length_map]; exact h1), Bool.true_and, List.all_eq_true]
  intro y hy
  obtain ⟨j, hj, rfl⟩ := List.mem_map.mp hy
  exact decide_eq_true (h2 j hj).1
/-- unlike pairs: as many keys as words -/
theorem fold_new : ∀ (ws : List D) (acc : List (List Key × D)), (acc.map (·.1) ++ ws.map pairK).Nodup → (ws.foldl (fun acc w => putP acc (pairK w) (D.bl true)) acc).length = acc.length + ws.length
  | [], acc, _ => by simp
  | w :: ws, acc, h => by
    have hn : pairK w ∉ acc.map (·.1) := by
      intro z
      rw [List.map_cons, List.nodup_append] at h
      exact h.2.2 _ z _ List.mem_cons_self rfl
    have e : putP acc (pairK w) (D.bl true) = acc ++ [(pairK w, .bl true)] := by
      unfold putP
      rw [if_neg]
      intro z
      obtain ⟨p, hp, q⟩ := List.any_eq_true.mp z
      have q := of_decide_eq_true q
      exact hn (List.mem_map.mpr ⟨p, hp, q⟩)
    rw [List.foldl_cons, e, fold_new ws]
    · rw [List.length_append, List.length_cons]; simp; omega
    · rw [List.map_append, List.append_assoc]
      exact h
theorem BookOk.isBk {m : Nat} {ws rows : List D} (h : BookOk m ws rows) : isBk (.tup [.lst ws, .lst rows]) = true := by
  show (ws.all isWd && (isJn (.lst rows) && isBk2 ws (.lst rows))) = true
  have e1 : ws.all isWd = true := List.all_eq_true.mpr fun w hw => (h.ww w hw).wd
  have e2 : isJn (.lst rows) = true := by
    show (!decide (rows = []) && rows.all (rowOk rows.length)) = true
    rw [decide_eq_false h.r0, List.all_eq_true.mpr fun r hr => (h.rr r hr).ok]; rfl
  have e3 : isBk2 ws (.lst rows) = true := by
    show (ws.all (fun w => decide (kindOf w < (rows.length : Int) - 1)) && decide ((dictOf ws).length = ws.length)) = true
    have f1 : ws.all (fun w => decide (kindOf w < (rows.length : Int) - 1)) = true := List.all_eq_true.mpr fun w hw => by
      obtain ⟨r, z, c, k, rfl, o⟩ := h.ww w hw
      exact decide_eq_true o.k2
    have f2 : (dictOf ws).length = ws.length := by
      have := fold_new ws [] (by simpa using h.wd)
      unfold dictOf
      simpa using this
    rw [f1, decide_eq_true f2]; rfl
  rw [e1, e2, e3]; rfl
theorem BookOk.sz {m : Nat} {ws rows : List D} (h : BookOk m ws rows) (hm : m ≤ 1000) : szB 1000 (.tup [.lst ws, .lst rows]) = true := by
  have := h.wl; have := h.rl
  refine sz_tup.mpr ⟨by show 2 ≤ 1000; decide, fun y hy => ?_⟩
  rcases (by simpa using hy : y = D.lst ws ∨ y = .lst rows) with rfl | rfl
  · exact sz_lst.mpr ⟨by omega, fun w hw => szB_mono (by decide) _ ((h.ww w hw).sz (by omega))⟩
  · exact sz_lst.mpr ⟨by omega, fun r hr => szB_mono (by decide) _ ((h.rr r hr).sz (by omega))⟩
end Bk
set_option Elab.async false
set_option linter.all false
set_option autoImplicit false
set_option maxRecDepth 100000
set_option maxHeartbeats 4000000
namespace Fb
open PySem PySem.Spec PyProof.Rows L2 Dl Bk
open Fa (ifD ifB ifT ifF two three powOk10 fapp strL strL_length strL_cps txt_join_signs)
/-- the pot stands at p -/
def Ps (c : Int) (p : Nat) (s : Sto) : Prop := ∃ a b n : Int, s[p]? = some (some (.lst [.int a, .int b, .int n])) ∧ 0 ≤ b ∧ b < 10000000000000000000000000000000000000121 ∧ 0 ≤ n ∧ n ≤ c
/-- all but p stays -/
structure Kp (p : Nat) (s s' : Sto) : Prop where
  len : s.length ≤ s'.length
  at_ : ∀ l, l < s.length → l ≠ p → s'[l]? = s[l]?
theorem Ps.up {c d : Int} {p : Nat} {s : Sto} (h : Ps c p s) (hc : c ≤ d) : Ps d p s := by
  obtain ⟨a, b, n, h1, h2, h3, h4, h5⟩ := h
  exact ⟨a, b, n, h1, h2, h3, h4, by omega⟩
theorem Ps.lt {c : Int} {p : Nat} {s : Sto} (h : Ps c p s) : p < s.length := by
  obtain ⟨a, b, n, h1, _⟩ := h
  exact (List.getElem?_eq_some_iff.mp h1).1
theorem Kp.refl {p : Nat} {s : Sto} : Kp p s s := ⟨Nat.le_refl _, fun _ _ _ => rfl⟩
theorem Kp.trans {p : Nat} {s s1 s2 : Sto} (h : Kp p s s1) (g : Kp p s1 s2) : Kp p s s2 := ⟨Nat.le_trans h.len g.len, fun l hl hp => (g.at_ l (Nat.lt_of_lt_of_le hl h.len) hp).trans (h.at_ l hl hp)⟩
theorem Kp.set {p : Nat} {s : Sto} {o : Option MO} : Kp p s (s.set p o) := ⟨by simp, fun l _ hp => List.getElem?_set_ne (Ne.symm hp)⟩
theorem Kp.app {p : Nat} {s : Sto} {o : Option MO} : Kp p s (s ++ [o]) := ⟨by simp, fun l hl _ => List.getElem?_append_left hl⟩
theorem Kp.get {p l : Nat} {s s' : Sto} {o : Option MO} (h : Kp p s s') (hl : s[l]? = some o) (hp : l ≠ p) : s'[l]? = some o := (h.at_ l (List.getElem?_eq_some_iff.mp hl).1 hp).trans hl
theorem Ps.app {c : Int} {p : Nat} {s : Sto} {o : Option MO} (h : Ps c p s) : Ps c p (s ++ [o]) := by
  obtain ⟨a, b, n, h1, r⟩ := h
  exact ⟨a, b, n, by rw [List.getElem?_append_left (List.getElem?_eq_some_iff.mp h1).1]; exact h1, r⟩
theorem Ps.set {c : Int} {p l : Nat} {s : Sto} {o : Option MO} (h : Ps c p s) (hl : l ≠ p) : Ps c p (s.set l o) := by
  obtain ⟨a, b, n, h1, r⟩ := h
  exact ⟨a, b, n, by rw [List.getElem?_set_ne hl]; exact h1, r⟩
def sp__law_take : SpD := fun ds s Q _ => ∃ c p many, ds = [.ref p, .int many] ∧ Ps c p s ∧ c ≤ 1000000000 ∧ 1 ≤ many ∧ many ≤ 10000000000000 ∧ ∀ i s', 0 ≤ i → i < many → Ps (c + 1) p s' → Kp p s s' → s'.length = s.length → Q (.int i) s'
def sp__law_pot : SpD := fun ds s Q _ => ∃ (ns : List Int) (k : Int), ds = [.frl (ns.map .int), .int k] ∧ 0 ≤ k ∧ k ≤ 100 ∧ ∀ s', Ps 0 s.length s' → s'.length = s.length + 1 → (∀ l, l < s.length → s'[l]? = s[l]?) → Q (.ref s.length) s'
theorem mono__law_take : MonoSp sp__law_take := fun _ _ _ _ _ _ f _ ⟨c, p, many, h1, h2, h3, h4, h5, h⟩ => ⟨c, p, many, h1, h2, h3, h4, h5, fun i s' a1 a2 a3 a4 a5 => f _ _ (h i s' a1 a2 a3 a4 a5)⟩
theorem len__law_take : ∀ ds s Q E, sp__law_take ds s Q E → ds.length = ["pot", "many"].length := fun _ _ _ _ ⟨_, _, _, h, _⟩ => by rw [h]; rfl
theorem mono__law_pot : MonoSp sp__law_pot := fun _ _ _ _ _ _ f _ ⟨ns, k, h1, h2, h3, h⟩ => ⟨ns, k, h1, h2, h3, fun s' a1 a2 a3 => f _ _ (h s' a1 a2 a3)⟩
theorem len__law_pot : ∀ ds s Q E, sp__law_pot ds s Q E → ds.length = ["script", "k"].length := fun _ _ _ _ ⟨_, _, h, _⟩ => by rw [h]; rfl
def b__law_take : SD := (dSeq (dIfS (dTest (dBin (oF gtBF) (dBin (oF idxF) (dVar 0) (dC (.int 0))) (dC (.int 0)))) (dSeq (dAsg (dBin oMod (dBin (oF idxF) (dVar 0) (dC (.int 0))) (dVar 1)) (gN 3))
  (dSeq (dAsg (dBin oDiv (dBin (oF idxF) (dVar 0) (dC (.int 0))) (dVar 1)) (gIx (dVar 0) (dC (.int 0))))
  (dRet (dVar 3)))) dNext)
  (dSeq (dAsg (dBin (oF addF) (dBin (oF idxF) (dVar 0) (dC (.int 2))) (dC (.int 1))) (gIx (dVar 0) (dC (.int 2))))
  (dSeq (dAsg (dBin oMod (dBin oPow (dBin (oF addF) (dBin (oF idxF) (dVar 0) (dC (.int 1))) (dBin oMul (dC (.int 15485863)) (dBin (oF idxF) (dVar 0) (dC (.int 2))))) (dC (.int 3))) (dC (.int 162259276829213363391578010288127))) (gN 2))
  (dSeq (dAsg (dBin oMod (dBin oPow (dBin (oF addF) (dVar 2) (dBin oMul (dC (.int 32452843)) (dBin (oF idxF) (dVar 0) (dC (.int 2))))) (dC (.int 5))) (dC (.int 170141183460469231731687303715884105727))) (gN 2))
  (dRet (dBin oMod (dBin oDiv (dVar 2) (dC (.int 1048576))) (dVar 1)))))))
def b__law_pot : SD := (dSeq (dAsg (dC (.int 0)) (gN 2))
  (dSeq (dIfS (dTest (dBin (oF ltF) (dVar 1) (dCB lenF (dCons (dVar 0) dNil)))) (dAsg (dBin (oF idxF) (dVar 0) (dVar 1)) (gN 2)) dNext)
  (dRet (dNew (dCons (dCB max2F (dCons (dC (.int 0)) (dCons (dBin (oF subF) (dVar 2) (dBin oPow (dC (.int 10)) (dC (.int 18)))) dNil))) (dCons (dBin (oF addF) (dBin oMod (dVar 2) (dC (.int 618970019642690137449562111))) (dBin oMul (dC (.int 7368787)) (dVar 1))) (dCons (dC (.int 0)) dNil)))))))
theorem app_last {s : Sto} {o : Option MO} : (s ++ [o])[s.length]? = some o := by simp
theorem ixr {s : Sto} {p : Nat} {xs : List D} {i : Int} {d : D} (h : s[p]? = some (some (.lst xs))) (e : atI xs i = some d) : idxF s (.ref p) (.int i) = some d := by rw [idx_r h, e]
section
variable (ds : List D) (s : Sto) (Q : D → Sto → Prop) (E : XD)
theorem pf__law_take (h : sp__law_take ds s Q E) : b__law_take (endsOf Q) (envD ["pot", "many", "mixed", "found"] ds) s := by
  obtain ⟨c, p, many, rfl, ⟨a, b, n, hp, b0, b1, n0, n1⟩, hc, m1, m2, q⟩ := h
  have lp : p < s.length := (List.getElem?_eq_some_iff.mp hp).1
  refine ⟨_, rfl, _, ixr hp rfl, _, rfl, _, rfl, ifD (fun ha => ?_) fun _ => ?_⟩
  · refine ⟨_, rfl, _, ixr hp rfl, _, rfl, _, _, rfl, rfl, (by omega : 0 < many), ?_⟩
    refine ⟨_, rfl, _, ixr hp rfl, _, rfl, _, _, rfl, rfl, divOk_of (by omega) (by omega), ?_⟩
    refine ⟨_, rfl, _, _, _, _, rfl, rfl, hp, rfl, ?_⟩
    exact ⟨_, rfl, q _ _ (Int.emod_nonneg _ (by omega)) (Int.emod_lt_of_pos _ (by omega)) ⟨a / many, b, n, List.getElem?_set_self lp, b0, b1, n0, by omega⟩ .set (by simp)⟩
  · refine ⟨_, rfl, _, ixr hp rfl, _, rfl, _, rfl, _, _, _, _, rfl, rfl, hp, rfl, ?_⟩
    have hp2 : (s.set p (some (.lst [.int a, .int b, .int (n + 1)])))[p]? = some (some (.lst [.int a, .int b, .int (n + 1)])) := List.getElem?_set_self lp
    refine ⟨_, rfl, _, ixr hp2 rfl, _, rfl, _, ixr hp2 rfl, .inl ⟨_, _, rfl, rfl, IntMulOk.of_left (by decide), _, rfl, ?_⟩⟩
    refine ⟨_, _, rfl, rfl, powOk_of (m := 140) (intBits_le_iff.mpr (by omega)) (by decide) (by decide), ?_⟩
    refine ⟨_, _, rfl, rfl, (show (0 : Int) < 162259276829213363391578010288127 by decide), ?_⟩
    have k0 := Int.emod_nonneg ((b + 15485863 * (n + 1)) ^ (3 : Int).toNat) (show (162259276829213363391578010288127 : Int) ≠ 0 by decide)
    have k1 := Int.emod_lt_of_pos ((b + 15485863 * (n + 1)) ^ (3 : Int).toNat) (show (0 : Int) < 162259276829213363391578010288127 by decide)
    refine ⟨_, rfl, _, rfl, _, ixr hp2 rfl, .inl ⟨_, _, rfl, rfl, IntMulOk.of_left (by decide), _, rfl, ?_⟩⟩
    refine ⟨_, _, rfl, rfl, powOk_of (m := 120) (intBits_le_iff.mpr (by omega)) (by decide) (by decide), ?_⟩
    refine ⟨_, _, rfl, rfl, (show (0 : Int) < 170141183460469231731687303715884105727 by decide), ?_⟩
    refine ⟨_, rfl, _, _, rfl, rfl, divOk_of (by decide) (by decide), ?_⟩
    refine ⟨_, rfl, _, _, rfl, rfl, (by omega : 0 < many), ?_⟩
    exact q _ _ (Int.emod_nonneg _ (by omega)) (Int.emod_lt_of_pos _ (by omega)) ⟨a, b, n + 1, hp2, b0, b1, by omega, by omega⟩ .set (by simp)
theorem pf__law_pot (h : sp__law_pot ds s Q E) : b__law_pot (endsOf Q) (envD ["script", "k", "cell"] ds) s := by
  obtain ⟨ns, k, rfl, k0, k1, q⟩ := h
  have key : ∀ c : Int, (dRet (dNew (dCons (dCB max2F (dCons (dC (.int 0)) (dCons (dBin (oF subF) (dVar 2) (dBin oPow (dC (.int 10)) (dC (.int 18)))) dNil))) (dCons (dBin (oF addF) (dBin oMod (dVar 2) (dC (.int 618970019642690137449562111))) (dBin oMul (dC (.int 7368787)) (dVar 1))) (dCons (dC (.int 0)) dNil))))) (endsOf Q) [some (.frl (ns.map .int)), some (.int k), some (.int c)] s := fun c => by
    refine ⟨_, rfl, _, _, rfl, rfl, powOk10 (by decide) (by decide), _, rfl, _, rfl, ?_⟩
    refine ⟨_, rfl, _, _, rfl, rfl, (show (0 : Int) < 618970019642690137449562111 by decide), _, rfl, .inl ⟨_, _, rfl, rfl, IntMulOk.of_left (by decide), _, rfl, Dl.ll, ?_⟩⟩
    have h0 := Int.emod_nonneg c (show (618970019642690137449562111 : Int) ≠ 0 by decide)
    have h1 := Int.emod_lt_of_pos c (show (0 : Int) < 618970019642690137449562111 by decide)
    refine q _ ⟨_, _, 0, app_last, by omega, by omega, by decide, by decide⟩ (by simp) fun l hl => List.getElem?_append_left hl
  refine ⟨_, rfl, _, rfl, _, rfl, _, rfl, _, rfl, ifD (fun hk => ?_) fun _ => ?_⟩
  · obtain ⟨x, hx, hm⟩ := atI_mem (xs := ns.map D.int) k0 hk
    obtain ⟨c, _, rfl⟩ := List.mem_map.mp hm
    exact ⟨_, rfl, _, rfl, _, hx, key c⟩
  · exact key 0
end
def sp__law_letters : SpD := fun ds s Q _ => ∃ c p, ds = [.ref p] ∧ Ps c p s ∧ c ≤ 100000000 ∧ ∀ (z : Str) s', sgnIn az z = true → 1 ≤ z.length → z.length ≤ 26 → Ps (c + 1) p s' → Kp p s s' → s'.length = s.length → Q (.str z) s'
def sp__law_cost : SpD := fun ds s Q _ => ∃ c p way, ds = [.ref p, .int way] ∧ 0 ≤ way ∧ way < 6 ∧ Ps c p s ∧ c ≤ 100000000 ∧ ∀ i s', 0 ≤ i → i ≤ 1000000000000 → Ps (c + 4) p s' → Kp p s s' → s'.length = s.length → Q (.int i) s'
def b__law_letters : SD := (dRet (dBin (oF idxF) (dLst (dCons (dC (.str "a")) (dCons (dC (.str "ab")) (dCons (dC (.str "xyz")) (dCons (dC (.str "abcdefghijklmnopqrstuvwxyz")) (dCons (dC (.str "ba")) dNil)))))) (dCall sp__law_take [] (dCons (dVar 0) (dCons (dC (.int 5)) dNil)))))
def b__law_cost : SD := (dSeq (dAsg (dLst (dCons (dC (.int 0)) (dCons (dCall sp__law_take [] (dCons (dVar 0) (dCons (dC (.int 3)) dNil))) (dCons (dBin (oF addF) (dC (.int 980)) (dCall sp__law_take [] (dCons (dVar 0) (dCons (dC (.int 41)) dNil)))) (dCons (dCall sp__law_take [] (dCons (dVar 0) (dCons (dC (.int 3000)) dNil))) (dCons (dCall sp__law_take [] (dCons (dVar 0) (dCons (dBin oPow (dC (.int 10)) (dC (.int 12))) dNil))) dNil)))))) (gN 2))
  (dRet (dBin (oF idxF) (dBin (oF addF) (dVar 2) (dLst (dCons (dBin (oF subF) (dBin oPow (dC (.int 10)) (dC (.int 12))) (dC (.int 1))) dNil))) (dVar 1))))
theorem mono__law_letters : MonoSp sp__law_letters := fun _ _ _ _ _ _ f _ ⟨c, p, h1, h2, h3, h⟩ => ⟨c, p, h1, h2, h3, fun i s' a1 a2 a3 a4 a5 a6 => f _ _ (h i s' a1 a2 a3 a4 a5 a6)⟩
theorem len__law_letters : ∀ ds s Q E, sp__law_letters ds s Q E → ds.length = ["pot"].length := fun _ _ _ _ ⟨_, _, h, _⟩ => by rw [h]; rfl
theorem mono__law_cost : MonoSp sp__law_cost := fun _ _ _ _ _ _ f _ ⟨c, p, w, h1, h2, h3, h4, h5, h⟩ => ⟨c, p, w, h1, h2, h3, h4, h5, fun i s' a1 a2 a3 a4 a5 => f _ _ (h i s' a1 a2 a3 a4 a5)⟩
theorem len__law_cost : ∀ ds s Q E, sp__law_cost ds s Q E → ds.length = ["pot", "way"].length := fun _ _ _ _ ⟨_, _, _, h, _⟩ => by rw [h]; rfl
section
variable (ds : List D) (s : Sto) (Q : D → Sto → Prop) (E : XD)
theorem pf__law_letters (h : sp__law_letters ds s Q E) : b__law_letters (endsOf Q) (envD ["pot"] ds) s := by
  obtain ⟨c, p, rfl, S, hc, q⟩ := h
  refine ⟨Dl.ll, _, rfl, c, p, 5, rfl, S, by omega, by decide, by decide, fun i s1 i0 i1 S1 K1 l1 => ?_⟩
  obtain ⟨x, hx, hm⟩ := atI_mem (xs := [D.str "a", .str "ab", .str "xyz", .str "abcdefghijklmnopqrstuvwxyz", .str "ba"]) i0 (by simpa using i1)
  refine ⟨x, hx, ?_⟩
  rcases (by simpa using hm : x = D.str "a" ∨ x = .str "ab" ∨ x = .str "xyz" ∨ x = .str "abcdefghijklmnopqrstuvwxyz" ∨ x = .str "ba") with rfl | rfl | rfl | rfl | rfl <;> exact q _ s1 (by decide +kernel) (by decide) (by decide) S1 K1 l1
theorem pf__law_cost (h : sp__law_cost ds s Q E) : b__law_cost (endsOf Q) (envD ["pot", "way", "some"] ds) s := by
  obtain ⟨c, p, way, rfl, w0, w1, S, hc, q⟩ := h
  have e12 : (10 : Int) ^ (12 : Int).toNat = 1000000000000 := by decide
  refine ⟨_, rfl, c, p, 3, rfl, S, by omega, by decide, by decide, fun i1 s1 a1 b1 S1 K1 l1 => ?_⟩
  refine ⟨_, rfl, _, p, 41, rfl, S1, by omega, by decide, by decide, fun i2 s2 a2 b2 S2 K2 l2 => ⟨_, rfl, ?_⟩⟩
  refine ⟨_, rfl, _, p, 3000, rfl, S2, by omega, by decide, by decide, fun i3 s3 a3 b3 S3 K3 l3 => ?_⟩
  refine ⟨_, rfl, _, _, rfl, rfl, powOk10 (by decide) (by decide), ?_⟩
  refine ⟨_, p, _, rfl, S3, by omega, by decide, by decide, fun i4 s4 a4 b4 S4 K4 l4 => ⟨Dl.ll, ?_⟩⟩
  refine ⟨_, rfl, _, _, rfl, rfl, powOk10 (by decide) (by decide), _, rfl, Dl.ll, _, addl Dl.ll, _, rfl, ?_⟩
  obtain ⟨x, hx, hm⟩ := atI_mem (xs := [D.int 0, .int i1, .int (980 + i2), .int i3, .int i4] ++ [.int ((10 : Int) ^ (12 : Int).toNat - 1)]) w0 (by simpa using w1)
  refine ⟨x, hx, ?_⟩
  rw [e12] at hm b4
  have hx' : ∃ n : Int, x = .int n ∧ 0 ≤ n ∧ n ≤ 1000000000000 := by
    rcases (by simpa using hm : x = D.int 0 ∨ x = .int i1 ∨ x = .int (980 + i2) ∨ x = .int i3 ∨ x = .int i4 ∨ x = .int 999999999999) with rfl | rfl | rfl | rfl | rfl | rfl
    · exact ⟨_, rfl, by omega, by omega⟩
    · exact ⟨_, rfl, by omega, by omega⟩
    · exact ⟨_, rfl, by omega, by omega⟩
    · exact ⟨_, rfl, by omega, by omega⟩
    · exact ⟨_, rfl, by omega, by omega⟩
    · exact ⟨_, rfl, by omega, by omega⟩
  obtain ⟨n, rfl, n0, n1⟩ := hx'
  exact q n s4 n0 n1 (S4.up (by omega)) (((K1.trans K2).trans K3).trans K4) (by omega)
end
end Fb
set_option Elab.async false
set_option linter.all false
set_option autoImplicit false
set_option maxRecDepth 100000
set_option maxHeartbeats 4000000
namespace Fb
open PySem PySem.Spec PyProof.Rows L2 Dl Bk
open Fa (ifD ifB ifT ifF two three powOk10 fapp strL strL_length strL_cps txt_join_signs)
theorem sgnIn_of {r : Str} {l : List Nat} {z : Str} (hz : sgnIn r z = true) (h : ∀ c ∈ l, c ∈ z.cps.toList) : sgnIn r (strL l) = true := by
  unfold sgnIn at hz ⊢
  rw [List.all_eq_true] at hz ⊢
  exact fun c hc => hz c (h c hc)
theorem strs_signs (l : List Nat) : strsOf (l.map fun c => D.str ⟨#[c]⟩) = some (l.map fun c => (⟨#[c]⟩ : Str)) := by
  have := strsOf_map (l.map fun c => (⟨#[c]⟩ : Str))
  rwa [List.map_map] at this
theorem sum_signs {l : List Nat} (h : l.length ≤ 100000) : ((l.map fun c => (⟨#[c]⟩ : Str)).map (·.length)).sum + (l.map fun c => (⟨#[c]⟩ : Str)).length * ("" : Str).length ≤ 16777216 := by
  have hsum : ∀ l : List Nat, ((l.map fun c => (⟨#[c]⟩ : Str)).map (·.length)).sum = l.length := fun l => by
    induction l with
    | nil => rfl
    | cons c l ih => rw [List.map_cons, List.map_cons, List.sum_cons, ih, List.length_cons]; show 1 + l.length = _; omega
  rw [hsum]
  show l.length + _ * 0 ≤ _
  omega
/-- signs drawn from a text -/
theorem lc_draws {env : En} {s : Sto} {K : List D → Sto → Prop} {j p : Nat} {z : Str} {n c : Int} {TE M : ED} (h0 : env[0]? = some (some (.ref p))) (hj : j ≠ 0) (hjl : j < env.length) (S : Ps c p s) (hc : c + n ≤ 1000000000) (z1 : 1 ≤ z.length) (z2 : z.length ≤ 1000) (n0 : 0 ≤ n)
    (hTE : ∀ d s P, P (.str z) s → TE ((wipeE env [j]).set j (some d)) s P) (hM : ∀ d s P, P (.int z.length) s → M ((wipeE env [j]).set j (some d)) s P)
    (q : ∀ (l : List Nat) s', l.length = n.toNat → (∀ x ∈ l, x ∈ z.cps.toList) → Ps (c + n) p s' → Kp p s s' → s'.length = s.length → K (l.map fun c => D.str ⟨#[c]⟩) s') :
    lcD noG (CT.g (.one j)) dYes (dBin (oF idxF) TE (dCall sp__law_take [] (dCons (dVar 0) (dCons M dNil)))) (wipeE env [j]) (rangeD 0 n.toNat) s K := by
  have hlen : (rangeD 0 n.toNat).length = n.toNat := by simp [rangeD]
  refine lcD_run (fun rest acc s1 => ∃ l : List Nat, acc = l.map (fun c => D.str ⟨#[c]⟩) ∧ rest.length + l.length = n.toNat ∧ (∀ x ∈ l, x ∈ z.cps.toList) ∧ Ps (c + l.length) p s1 ∧ Kp p s s1 ∧ s1.length = s.length) ?_ (acc := []) ⟨[], rfl, by simp [hlen], by simp, S.up (by simp), .refl, rfl⟩ ?_
  · rintro d rest acc s1 ⟨l, rfl, hl, hz, S1, K1, e1⟩ k1 k0 h1 h2
    rw [List.length_cons] at hl
    have e0 : ((wipeE env [j]).set j (some d))[0]? = some (some (.ref p)) := by
      rw [List.getElem?_set_ne hj]
      show (env.set j none)[0]? = _
      rw [List.getElem?_set_ne hj]
      exact h0
    refine ⟨trivial, hTE d _ _ ⟨_, e0, hM d _ _ ⟨_, p, _, rfl, S1, by omega, by omega, by omega, fun i s2 i0 i1 S2 K2 e2 => ?_⟩⟩⟩
    obtain ⟨x, hx, hm⟩ := atI_mem (xs := z.cps.toList) i0 (by rw [Array.length_toList]; exact i1)
    refine ⟨_, by rw [idx_s, hx]; rfl, h1 _ _ ⟨l ++ [x], by simp, by simp; omega, fun y hy => ?_, S2.up (by simp; omega), K1.trans K2, by omega⟩⟩
    rcases List.mem_append.mp hy with h | h
    · exact hz _ h
    · rw [List.mem_singleton.mp h]; exact hm
  · rintro ys s1 ⟨l, hl, hn, hz, S1, K1, e1⟩
    rw [List.nil_append] at hl
    subst hl
    have hll : l.length = n.toNat := by simpa using hn
    exact ⟨trivial, q l s1 hll hz (S1.up (by omega)) K1 e1⟩
def sp__law_word : SpD := fun ds s Q _ => ∃ (c : Int) (p : Nat) (z : Str) (kinds way : Int), ds = [.ref p, .str z, .int kinds, .int way] ∧ 1 ≤ kinds ∧ kinds ≤ 100 ∧ 0 ≤ way ∧ way < 6 ∧ sgnIn az z = true ∧ 1 ≤ z.length ∧ z.length ≤ 26 ∧ Ps c p s ∧ c ≤ 10000000 ∧ ∀ x s', IsW kinds x → Ps (c + 100) p s' → Kp p s s' → s'.length = s.length → Q x s'
def b__law_word : SD := (dSeq (dAsg (dBin (oF idxF) (dLst (dCons (dC (.int 1)) (dCons (dC (.int 2)) (dCons (dBin (oF addF) (dC (.int 1)) (dCall sp__law_take [] (dCons (dVar 0) (dCons (dC (.int 4)) dNil)))) (dCons (dBin (oF addF) (dC (.int 1)) (dCall sp__law_take [] (dCons (dVar 0) (dCons (dC (.int 40)) dNil)))) dNil))))) (dBin (oF idxF) (dLst (dCons (dC (.int 0)) (dCons (dC (.int 1)) (dCons (dC (.int 1)) (dCons (dC (.int 2)) (dCons (dC (.int 2)) (dCons (dC (.int 2)) (dCons (dC (.int 2)) (dCons (dC (.int 3)) dNil))))))))) (dCall sp__law_take [] (dCons (dVar 0) (dCons (dC (.int 8)) dNil))))) (gN 4))
  (dSeq (dAsg (dJoin (dC (.str "")) (dLc (iR1 (dCons (dVar 4) dNil)) (CT.g (.one 7)) dYes (dBin (oF idxF) (dVar 1) (dCall sp__law_take [] (dCons (dVar 0) (dCons (dCB lenF (dCons (dVar 1) dNil)) dNil)))) [7])) (gN 5))
  (dSeq (dAsg (dJoin (dC (.str "")) (dLc (iR1 (dCons (dBin (oF idxF) (dLst (dCons (dC (.int 1)) (dCons (dC (.int 1)) (dCons (dC (.int 2)) (dCons (dC (.int 12)) dNil))))) (dCall sp__law_take [] (dCons (dVar 0) (dCons (dC (.int 4)) dNil)))) dNil)) (CT.g (.one 7)) dYes (dBin (oF idxF) (dC (.str "ABZ")) (dCall sp__law_take [] (dCons (dVar 0) (dCons (dC (.int 3)) dNil)))) [7])) (gN 6))
  (dRet (dTup (dCons (dVar 5) (dCons (dVar 6) (dCons (dCall sp__law_cost [] (dCons (dVar 0) (dCons (dVar 3) dNil))) (dCons (dCall sp__law_take [] (dCons (dVar 0) (dCons (dVar 2) dNil))) dNil)))))))))
theorem mono__law_word : MonoSp sp__law_word := fun _ _ _ _ _ _ f _ ⟨c, p, z, k, w, h1, h2, h3, h4, h5, h6, h7, h8, h9, h10, h⟩ => ⟨c, p, z, k, w, h1, h2, h3, h4, h5, h6, h7, h8, h9, h10, fun i s' a1 a2 a3 a4 => f _ _ (h i s' a1 a2 a3 a4)⟩
theorem len__law_word : ∀ ds s Q E, sp__law_word ds s Q E → ds.length = ["pot", "letters", "kinds", "way"].length := fun _ _ _ _ ⟨_, _, _, _, _, h, _⟩ => by rw [h]; rfl
section
variable (ds : List D) (s : Sto) (Q : D → Sto → Prop) (E : XD)
theorem pf__law_word (h : sp__law_word ds s Q E) : b__law_word (endsOf Q) (envD ["pot", "letters", "kinds", "way", "many", "reading", "writing", "k"] ds) s := by
  obtain ⟨c, p, z, kinds, way, rfl, k0, k1, w0, w1, hz, z1, z2, S, hc, q⟩ := h
  refine ⟨_, rfl, c, p, 4, rfl, S, by omega, by decide, by decide, fun i1 s1 a1 b1 S1 K1 l1 => ⟨_, rfl, ?_⟩⟩
  refine ⟨_, rfl, _, p, 40, rfl, S1, by omega, by decide, by decide, fun i2 s2 a2 b2 S2 K2 l2 => ⟨_, rfl, Dl.ll, Dl.ll, ?_⟩⟩
  refine ⟨_, rfl, _, p, 8, rfl, S2, by omega, by decide, by decide, fun i3 s3 a3 b3 S3 K3 l3 => ?_⟩
  obtain ⟨x, hx, hm⟩ := atI_mem (xs := [D.int 0, .int 1, .int 1, .int 2, .int 2, .int 2, .int 2, .int 3]) a3 (by simpa using b3)
  have hx' : ∃ j : Int, x = .int j ∧ 0 ≤ j ∧ j < 4 := by
    rcases (by simpa using hm : x = D.int 0 ∨ x = .int 1 ∨ x = .int 2 ∨ x = .int 3) with rfl | rfl | rfl | rfl <;> exact ⟨_, rfl, by decide, by decide⟩
  obtain ⟨j, rfl, j0, j1⟩ := hx'
  obtain ⟨y, hy, my⟩ := atI_mem (xs := [D.int 1, .int 2, .int (1 + i1), .int (1 + i2)]) j0 (by simpa using j1)
  have hy' : ∃ m : Int, y = .int m ∧ 1 ≤ m ∧ m ≤ 40 := by
    rcases (by simpa using my : y = D.int 1 ∨ y = .int 2 ∨ y = .int (1 + i1) ∨ y = .int (1 + i2)) with rfl | rfl | rfl | rfl
    · exact ⟨_, rfl, by omega, by omega⟩
    · exact ⟨_, rfl, by omega, by omega⟩
    · exact ⟨_, rfl, by omega, by omega⟩
    · exact ⟨_, rfl, by omega, by omega⟩
  obtain ⟨m, rfl, m0, m1⟩ := hy'
  refine ⟨_, hx, _, hy, ?_⟩
  have hr : ∀ n, (rangeD 0 n).length = n := fun n => by simp [rangeD]
  refine ⟨_, rfl, _, rfl, m, rfl, by omega, by omega, le_line (by rw [hr]; omega), ?_⟩
  refine lc_draws (z := z) rfl (by decide) (Nat.lt_succ_self 7) S3 (by omega) z1 (by omega) (by omega) (fun d s P h => ⟨_, rfl, h⟩) (fun d s P h => ⟨_, rfl, _, rfl, h⟩) fun l s4 hl hlz S4 K4 l4 => ⟨_, _, rfl, strs_signs l, sum_signs (by omega), ?_⟩
  rw [txt_join_signs]
  refine ⟨_, rfl, Dl.ll, _, rfl, _, p, 4, rfl, S4, by omega, by decide, by decide, fun i5 s5 a5 b5 S5 K5 l5 => ?_⟩
  obtain ⟨y, hy, my⟩ := atI_mem (xs := [D.int 1, .int 1, .int 2, .int 12]) a5 (by simpa using b5)
  have hy' : ∃ m : Int, y = .int m ∧ 1 ≤ m ∧ m ≤ 12 := by
    rcases (by simpa using my : y = D.int 1 ∨ y = .int 2 ∨ y = .int 12) with rfl | rfl | rfl <;> exact ⟨_, rfl, by decide, by decide⟩
  obtain ⟨o, rfl, o0, o1⟩ := hy'
  refine ⟨_, hy, o, rfl, by omega, by omega, le_line (by rw [hr]; omega), ?_⟩
  refine lc_draws (z := "ABZ") rfl (by decide) (Nat.lt_succ_self 7) S5 (by omega) (by decide) (by decide) (by omega) (fun d s P h => h) (fun d s P h => h) fun u s6 hu huz S6 K6 l6 => ⟨_, _, rfl, strs_signs u, sum_signs (by omega), ?_⟩
  rw [txt_join_signs]
  refine ⟨_, rfl, _, rfl, _, rfl, _, rfl, _, p, way, rfl, w0, w1, S6, by omega, fun cost s7 c0 c1 S7 K7 l7 => ?_⟩
  refine ⟨_, rfl, _, rfl, _, p, kinds, rfl, S7, by omega, by omega, by omega, fun kind s8 a8 b8 S8 K8 l8 => ⟨Dl.ll, ?_⟩⟩
  refine q _ s8 ⟨_, _, _, _, rfl, ⟨sgnIn_of hz hlz, by rw [strL_length]; omega, by rw [strL_length]; omega, sgnIn_of (show sgnIn AZ "ABZ" = true by decide +kernel) huz, by rw [strL_length]; omega, by rw [strL_length]; omega, c0, c1, a8, b8⟩⟩ (S8.up (by omega)) (K1.trans (K2.trans (K3.trans (K4.trans (K5.trans (K6.trans (K7.trans K8))))))) (by omega)
end
end Fb
set_option Elab.async false
set_option linter.all false
set_option autoImplicit false
set_option maxRecDepth 100000
set_option maxHeartbeats 4000000
namespace Fb
open PySem PySem.Spec PyProof.Rows L2 Dl Bk
open Fa (ifD ifB ifT ifF two three powOk10 fapp strL strL_length strL_cps txt_join_signs)
theorem eq_pair (a b c d : Str) : eqN 59 (.tup [.str a, .str b]) (.tup [.str c, .str d]) = some (a == c && b == d) := by
  simp [eqN, allO]
def pairD (x : D) : D := match x with
  | .tup (.str r :: .str w :: _) => .tup [.str r, .str w]
  | _ => .non
theorem pair_in {K : Int} {ws : List D} {x : D} (h : ∀ w ∈ ws, IsW K w) (hx : IsW K x) : InOk (ws.map pairD) (pairD x) ∧ (inAny (ws.map pairD) (pairD x) = true ↔ pairK x ∈ ws.map pairK) := by
  obtain ⟨r, z, c, k, rfl, _⟩ := hx
  refine ⟨⟨?_, fun d hd => ?_⟩, ?_⟩
  · have : ∀ l : List D, (∀ w ∈ l, IsW K w) → pureL (l.map pairD) = true := fun l => by
      induction l with
      | nil => intro _; rfl
      | cons w l ih =>
        intro hw
        obtain ⟨r', z', c', k', rfl, _⟩ := hw w List.mem_cons_self
        have := ih fun y hy => hw y (List.mem_cons_of_mem _ hy)
        rw [List.map_cons]
        show (pureD (.tup [.str r', .str z']) && pureL (l.map pairD)) = true
        rw [this]; rfl
    exact this ws h
  · obtain ⟨w, hw, rfl⟩ := List.mem_map.mp hd
    obtain ⟨r', z', c', k', rfl, _⟩ := h w hw
    exact ⟨_, eq_pair _ _ _ _⟩
  · have key : ∀ w ∈ ws, ((eqN 59 (pairD w) (.tup [.str r, .str z])).getD false) = decide (pairK w = [.inr r, .inr z]) := fun w hw => by
      obtain ⟨r', z', c', k', rfl, _⟩ := h w hw
      show ((eqN 59 (.tup [.str r', .str z']) (.tup [.str r, .str z])).getD false) = decide (([.inr r', .inr z'] : List Key) = [.inr r, .inr z])
      rw [eq_pair]
      show (r' == r && z' == z) = _
      by_cases e1 : r' = r
      · subst e1
        by_cases e2 : z' = z
        · subst e2; simp
        · simp [e2]
      · simp [e1]
    show (ws.map pairD).any (fun d => (eqN 59 d (.tup [.str r, .str z])).getD false) = true ↔ ([.inr r, .inr z] : List Key) ∈ ws.map pairK
    rw [List.any_map]
    constructor
    · intro e
      obtain ⟨w, hw, e⟩ := List.any_eq_true.mp e
      have := (key w hw).symm.trans e
      exact List.mem_map.mpr ⟨w, hw, of_decide_eq_true this⟩
    · intro hm
      obtain ⟨w, hw, e⟩ := List.mem_map.mp hm
      exact List.any_eq_true.mpr ⟨w, hw, (key w hw).trans (decide_eq_true e)⟩
def sp__law_book : SpD := fun ds s Q _ => ∃ (c : Int) (p : Nat) (z : Str) (most : Int), ds = [.ref p, .str z, .int most] ∧ 0 ≤ most ∧ most ≤ 200 ∧ sgnIn az z = true ∧ 1 ≤ z.length ∧ z.length ≤ 26 ∧ Ps c p s ∧ c ≤ 1000000 ∧
  ∀ ws rows s', BookOk most.toNat ws rows → rows.length ≤ 9 → Ps (c + 50000) p s' → Kp p s s' → Q (.tup [.lst ws, .lst rows]) s'
def b__law_book : SD := (dSeq (dAsg (dBin (oF idxF) (dLst (dCons (dC (.int 1)) (dCons (dC (.int 2)) (dCons (dC (.int 3)) (dCons (dCall sp__law_take [] (dCons (dVar 0) (dCons (dC (.int 9)) dNil))) dNil))))) (dCall sp__law_take [] (dCons (dVar 0) (dCons (dC (.int 4)) dNil)))) (gN 3))
  (dSeq (dAsg (dLst (dCons (dCall sp__law_take [] (dCons (dVar 0) (dCons (dC (.int 6)) dNil))) (dCons (dCall sp__law_take [] (dCons (dVar 0) (dCons (dC (.int 6)) dNil))) dNil))) (gN 4))
  (dSeq (dAsg (dNew dNil) (gN 5))
  (dSeq (dFor (iR1 (dCons (dBin oMul (dCall sp__law_take [] (dCons (dVar 0) (dCons (dBin (oF addF) (dVar 2) (dC (.int 1))) dNil))) (dCB intF (dCons (dBin (oF gtBF) (dVar 3) (dC (.int 0))) dNil))) dNil)) (gN 6) (dSeq (dAsg (dCall sp__law_word [] (dCons (dVar 0) (dCons (dVar 1) (dCons (dVar 3) (dCons (dBin (oF idxF) (dLst (dCons (dBin (oF idxF) (dVar 4) (dC (.int 0))) (dCons (dBin (oF idxF) (dVar 4) (dC (.int 0))) (dCons (dC (.int 1)) (dCons (dC (.int 2)) dNil))))) (dCall sp__law_take [] (dCons (dVar 0) (dCons (dC (.int 4)) dNil)))) dNil))))) (gN 8))
  (dIfS (dTest (dBin (oOr (oInS Bool.not) (oIn Bool.not)) (dSl (dVar 8) dNoP (dP (dC (.int 2)))) (dLc (iW (dVar 5)) (CT.g (.one 9)) dYes (dSl (dVar 9) dNoP (dP (dC (.int 2)))) [9]))) (dDrop (dMt fAppend (dVar 5) (dCons (dVar 8) dNil))) dNext)))
  (dSeq (dAsg (dNew dNil) (gN 7))
  (dSeq (dFor (iR1 (dCons (dBin (oF addF) (dVar 3) (dC (.int 1))) dNil)) (gN 6) (dDrop (dMt fAppend (dVar 7) (dCons (dLc (iR1 (dCons (dBin (oF addF) (dVar 3) (dC (.int 1))) dNil)) (CT.g (.one 10)) dYes (dCall sp__law_cost [] (dCons (dVar 0) (dCons (dBin (oF idxF) (dLst (dCons (dBin (oF idxF) (dVar 4) (dC (.int 1))) (dCons (dBin (oF idxF) (dVar 4) (dC (.int 1))) (dCons (dC (.int 1)) dNil)))) (dCall sp__law_take [] (dCons (dVar 0) (dCons (dC (.int 3)) dNil)))) dNil))) [10]) dNil))))
  (dRet (dTup (dCons (dFrz (dVar 5)) (dCons (dFrz (dVar 7)) dNil))))))))))
theorem mono__law_book : MonoSp sp__law_book := fun _ _ _ _ _ _ f _ ⟨c, p, z, m, h1, h2, h3, h4, h5, h6, h7, h8, h⟩ => ⟨c, p, z, m, h1, h2, h3, h4, h5, h6, h7, h8, fun i j s' a1 a2 a3 a4 => f _ _ (h i j s' a1 a2 a3 a4)⟩
theorem len__law_book : ∀ ds s Q E, sp__law_book ds s Q E → ds.length = ["pot", "letters", "most"].length := fun _ _ _ _ ⟨_, _, _, _, h, _⟩ => by rw [h]; rfl
section
variable (ds : List D) (s : Sto) (Q : D → Sto → Prop) (E : XD)
theorem pf__law_book (h : sp__law_book ds s Q E) : b__law_book (endsOf Q) (envD ["pot", "letters", "most", "kinds", "ways", "words", "k", "joins", "word", "one", "j"] ds) s := by
  obtain ⟨c, p, z, most, rfl, m0, m1, hz, z1, z2, S, hc, q⟩ := h
  have hr : ∀ a n, (rangeD a n).length = n := fun a n => by simp [rangeD]
  refine ⟨_, rfl, c, p, 9, rfl, S, by omega, by decide, by decide, fun i1 s1 a1 b1 S1 K1 l1 => ⟨Dl.ll, ?_⟩⟩
  refine ⟨_, rfl, _, p, 4, rfl, S1, by omega, by decide, by decide, fun i2 s2 a2 b2 S2 K2 l2 => ?_⟩
  obtain ⟨y, hy, my⟩ := atI_mem (xs := [D.int 1, .int 2, .int 3, .int i1]) a2 (by simpa using b2)
  have hy' : ∃ m : Int, y = .int m ∧ 0 ≤ m ∧ m ≤ 8 := by
    rcases (by simpa using my : y = D.int 1 ∨ y = .int 2 ∨ y = .int 3 ∨ y = .int i1) with rfl | rfl | rfl | rfl
    · exact ⟨_, rfl, by omega, by omega⟩
    · exact ⟨_, rfl, by omega, by omega⟩
    · exact ⟨_, rfl, by omega, by omega⟩
    · exact ⟨_, rfl, by omega, by omega⟩
  obtain ⟨kinds, rfl, k0, k1⟩ := hy'
  refine ⟨_, hy, ?_⟩
  refine ⟨_, rfl, _, p, 6, rfl, S2, by omega, by decide, by decide, fun w1 s3 a3 b3 S3 K3 l3 => ?_⟩
  refine ⟨_, rfl, _, p, 6, rfl, S3, by omega, by decide, by decide, fun w2 s4 a4 b4 S4 K4 l4 => ⟨Dl.ll, ?_⟩⟩
  refine ⟨Nat.zero_le _, ?_⟩
  have lp : p < s4.length := S4.lt
  have S5 := S4.app (o := some (.lst []))
  refine ⟨_, rfl, _, rfl, _, rfl, _, p, _, rfl, S5, by omega, by omega, by omega, fun i6 s6 a6 b6 S6 K6 l6 => ?_⟩
  obtain ⟨jb, hjb, j0, j1⟩ : ∃ jb : Int, b2n (decide (0 < kinds)) = jb ∧ 0 ≤ jb ∧ jb ≤ 1 := by
    refine ⟨_, rfl, ?_, ?_⟩
    · cases decide (0 < kinds) <;> decide
    · cases decide (0 < kinds) <;> decide
  have hj1 : 0 < i6 * jb → 0 < kinds := fun h => by
    by_cases hk : 0 < kinds
    · exact hk
    · rw [decide_eq_false hk] at hjb
      have : jb = 0 := hjb.symm
      subst this; simp at h
  have hj2 : i6 * jb ≤ i6 := by
    have : i6 * jb ≤ i6 * 1 := Int.mul_le_mul_of_nonneg_left j1 a6
    omega
  have hj3 : 0 ≤ i6 * jb := Int.mul_nonneg a6 j0
  refine ⟨_, rfl, _, rfl, _, rfl, .inl ⟨_, _, rfl, rfl, IntMulOk.of_right (by rw [hjb]; exact intBits_le_iff.mpr (by omega)), i6 * b2n (decide (0 < kinds)), rfl, by rw [hjb]; omega, by rw [hjb]; omega, ?_⟩⟩
  rw [hjb]
  have N0 : ∀ s', Kp p (s4 ++ [some (.lst [])]) s' → Kp p s4 s' := fun s' h => Kp.trans (.app) h
  refine forD_run (fun rest env s' => ∃ (ws : List D) (k wd : Option D), env = [some (.ref p), some (.str z), some (.int most), some (.int kinds), some (.lst [.int w1, .int w2]), some (.ref s4.length), k, none, wd, none, none] ∧ s'[s4.length]? = some (some (.lst ws)) ∧
    (∀ w ∈ ws, IsW kinds w) ∧ (ws.map pairK).Nodup ∧ ((ws.length + rest.length : Nat) : Int) ≤ i6 * jb ∧ Ps (c + 10 + 110 * (i6 * jb - rest.length)) p s' ∧ Kp p s4 s' ∧ s'.length = s4.length + 1) ?_ ?_ ?_
  · rintro d rest env s' ⟨ws, k, wd, rfl, hws, hW, hD, hl, S7, K7, l7⟩ N hN
    rw [List.length_cons] at hl S7
    have hk : 0 < kinds := hj1 (by omega)
    refine ⟨trivial, ?_⟩
    refine ⟨_, rfl, _, rfl, _, rfl, _, rfl, _, rfl, _, rfl, _, rfl, Dl.ll, _, rfl, _, p, 4, rfl, S7, by omega, by decide, by decide, fun i8 s8 a8 b8 S8 K8 l8 => ?_⟩
    obtain ⟨y, hy, my⟩ := atI_mem (xs := [D.int w1, .int w1, .int 1, .int 2]) a8 (by simpa using b8)
    have hy' : ∃ m : Int, y = .int m ∧ 0 ≤ m ∧ m < 6 := by
      rcases (by simpa using my : y = D.int w1 ∨ y = .int 1 ∨ y = .int 2) with rfl | rfl | rfl
      · exact ⟨_, rfl, by omega, by omega⟩
      · exact ⟨_, rfl, by omega, by omega⟩
      · exact ⟨_, rfl, by omega, by omega⟩
    obtain ⟨way, rfl, y0, y1⟩ := hy'
    refine ⟨_, hy, _, p, z, kinds, way, rfl, by omega, by omega, y0, y1, hz, z1, z2, S8, by omega, fun x s9 hx S9 K9 l9 => ?_⟩
    have hne : s4.length ≠ p := by omega
    have hws9 : s9[s4.length]? = some (some (.lst ws)) := K9.get (K8.get hws hne) hne
    obtain ⟨pin, pan⟩ := pair_in hW hx
    have hx0 := hx
    obtain ⟨r, w, cc, kk, rfl, _⟩ := hx
    refine ⟨_, rfl, _, rfl, _, rfl, _, rfl, _, _, isW_ref hws9, le_line (by omega), ?_⟩
    refine lcD_pure (fun _ => true) pairD hws9 (fun e he k1 k0 h1 h0 => ?_) ?_
    · obtain ⟨r', w', c', k', rfl, _⟩ := hW e he
      exact ⟨_, rfl, _, rfl, _, rfl, h1 rfl⟩
    rw [List.filter_eq_self.mpr (fun _ _ => rfl)]
    refine .inr ⟨ws.map pairD, .inl rfl, pin, _, rfl, ifB (fun hn => ?_) fun hn => ?_⟩
    · have hnot : pairK (.tup [.str r, .str w, .int cc, .int kk]) ∉ ws.map pairK := fun z => by
        have := pan.mpr z
        have hn' : (!inAny (ws.map pairD) (pairD (.tup [.str r, .str w, .int cc, .int kk]))) = true := hn
        rw [this] at hn'; cases hn'
      refine ⟨_, rfl, _, _, rfl, hws9, _, rfl, _, _, _, hws9, fapp (Nat.lt_of_le_of_lt (Nat.le_of_lt_succ (by omega : ws.length < 100001)) (by rw [sizeLine_eq]; decide)), ?_⟩
      refine hN _ _ ⟨ws ++ [.tup [.str r, .str w, .int cc, .int kk]], _, _, rfl, List.getElem?_set_self (List.getElem?_eq_some_iff.mp hws9).1, fun v hv => ?_, ?_, by rw [List.length_append, List.length_singleton]; omega, (S9.set hne).up (by push_cast; omega), ⟨by simp; omega, fun l hl hp => ?_⟩, by simp; omega⟩
      · rcases List.mem_append.mp hv with h | h
        · exact hW v h
        · rw [List.mem_singleton.mp h]; exact hx0
      · rw [List.map_append, List.nodup_append]
        refine ⟨hD, by simp, fun a ha b hb e => ?_⟩
        rw [List.mem_singleton.mp hb] at e
        rw [e] at ha
        exact hnot ha
      · rw [List.getElem?_set_ne (by omega)]
        exact (K7.trans (K8.trans K9)).at_ l hl hp
    · exact hN _ _ ⟨ws, _, _, rfl, hws9, hW, hD, by omega, S9.up (by push_cast; omega), K7.trans (K8.trans K9), by omega⟩
  · rintro env s' ⟨ws, k, wd, rfl, hws, hW, hD, hl, S7, K7, l7⟩
    rw [List.length_nil] at hl S7
    refine ⟨trivial, Nat.zero_le _, ?_⟩
    have lp2 : p < s'.length := S7.lt
    refine ⟨_, rfl, _, rfl, _, rfl, by omega, by omega, ?_⟩
    refine forD_run (fun rest env s2 => ∃ (rows : List D) (k : Option D), env = [some (.ref p), some (.str z), some (.int most), some (.int kinds), some (.lst [.int w1, .int w2]), some (.ref s4.length), k, some (.ref s'.length), wd, none, none] ∧ s2[s'.length]? = some (some (.lst rows)) ∧
      (∀ r ∈ rows, IsRow (kinds + 1).toNat r) ∧ rows.length + rest.length = (kinds + 1).toNat ∧ Ps (c + 30000 - 100 * rest.length) p s2 ∧ Kp p s' s2 ∧ s2.length = s'.length + 1) ?_ ?_ ?_
    · rintro d rest env s2 ⟨rows, k, rfl, hrows, hR, hl2, S8, K8, l8⟩ N hN
      rw [List.length_cons] at hl2 S8
      refine ⟨trivial, ?_⟩
      refine ⟨_, rfl, _, _, rfl, hrows, ?_⟩
      refine ⟨_, rfl, _, rfl, _, rfl, by omega, by omega, le_line (by rw [hr]; omega), ?_⟩
      refine lcD_run (fun rs acc s3 => ∃ js : List Int, acc = js.map .int ∧ rs.length + js.length = (kinds + 1).toNat ∧ (∀ j ∈ js, 0 ≤ j ∧ j ≤ 1000000000000) ∧ Ps (c + 30000 - 100 * ((rest.length + 1 : Nat) : Int) + 6 * js.length) p s3 ∧ Kp p s2 s3 ∧ s3.length = s2.length) ?_ (acc := []) ⟨[], rfl, by rw [hr]; simp, (fun _ h => nomatch h), S8.up (by simp), .refl, rfl⟩ ?_
      · rintro e rs acc s3 ⟨js, rfl, hj, hjs, S9, K9, l9⟩ k1 k0 h1 h0
        rw [List.length_cons] at hj
        refine ⟨trivial, ?_⟩
        refine ⟨_, rfl, _, rfl, _, rfl, _, rfl, _, rfl, Dl.ll, _, rfl, _, p, 3, rfl, S9, by omega, by decide, by decide, fun i8 s8 a8 b8 S10 K10 l10 => ?_⟩
        obtain ⟨y, hy, hm⟩ := three (a := D.int w2) (b := .int w2) (c := .int 1) a8 b8
        have hy' : ∃ m : Int, y = .int m ∧ 0 ≤ m ∧ m < 6 := by
          rcases hm with rfl | rfl | rfl
          · exact ⟨_, rfl, by omega, by omega⟩
          · exact ⟨_, rfl, by omega, by omega⟩
          · exact ⟨_, rfl, by omega, by omega⟩
        obtain ⟨way, rfl, y0, y1⟩ := hy'
        refine ⟨_, hy, _, p, way, rfl, y0, y1, S10, by omega, fun v s11 v0 v1 S11 K11 l11 => ?_⟩
        refine h1 _ _ ⟨js ++ [v], by simp, by simp; omega, fun u hu => ?_, S11.up (by push_cast; simp; omega), K9.trans (K10.trans K11), by omega⟩
        rcases List.mem_append.mp hu with h | h
        · exact hjs u h
        · rw [List.mem_singleton.mp h]; exact ⟨v0, v1⟩
      · rintro ys s3 ⟨js, hys, hj, hjs, S9, K9, l9⟩
        rw [List.nil_append] at hys
        subst hys
        have hj' : js.length = (kinds + 1).toNat := by simpa using hj
        have hrows3 : s3[s'.length]? = some (some (.lst rows)) := K9.get hrows (by omega)
        refine ⟨trivial, _, _, _, hrows3, fapp (Nat.lt_of_lt_of_le (by omega : rows.length < 1000) (le_line (by decide))), ?_⟩
        refine hN _ _ ⟨rows ++ [.lst (js.map .int)], _, rfl, List.getElem?_set_self (List.getElem?_eq_some_iff.mp hrows3).1, fun r hr => ?_, by rw [List.length_append, List.length_singleton]; omega, (S9.set (by omega)).up (by push_cast; omega), ⟨by simp; omega, fun l hl hp => ?_⟩, by simp; omega⟩
        · rcases List.mem_append.mp hr with h | h
          · exact hR r h
          · rw [List.mem_singleton.mp h]; exact ⟨js, rfl, hj', hjs⟩
        · rw [List.getElem?_set_ne (by omega)]
          exact (K8.trans K9).at_ l hl hp
    · rintro env s2 ⟨rows, k, rfl, hrows, hR, hl2, S8, K8, l8⟩
      rw [List.length_nil] at hl2 S8
      refine ⟨trivial, ?_⟩
      have hws2 : s2[s4.length]? = some (some (.lst ws)) := K8.get hws (by omega)
      refine ⟨_, rfl, _, _, rfl, hws2, ?_⟩
      refine ⟨_, rfl, _, _, rfl, (List.getElem?_set_ne (by omega)).trans hrows, Dl.ll, ?_⟩
      have hrl : rows.length = (kinds + 1).toNat := by omega
      refine q ws rows _ ⟨by omega, fun w hw => ?_, hD, fun e => by rw [e] at hrl; simp at hrl; omega, by omega, fun r hr => by rw [hrl]; exact hR r hr⟩ (by omega) (((S8.set (by omega)).set (by omega)).up (by omega)) ⟨by simp; omega, fun l hl hp => ?_⟩
      · have := hW w hw
        rw [hrl]
        rw [show (((kinds + 1).toNat : Nat) : Int) - 1 = kinds by omega]
        exact this
      · rw [List.getElem?_set_ne (by omega), List.getElem?_set_ne (by omega)]
        exact (((((K1.trans K2).trans K3).trans K4).trans K7).trans K8).at_ l hl hp
    · exact ⟨[], k, rfl, app_last, (fun _ h => nomatch h), by rw [hr]; simp, S7.app.up (by rw [hr]; omega), .app, by simp⟩
  · refine ⟨[], none, none, rfl, ?_, (fun _ h => nomatch h), List.nodup_nil, ?_, ?_, N0 _ K6, ?_⟩
    · exact K6.get (Fb.app_last) (by omega)
    · rw [hr]; simp; omega
    · rw [hr]; exact S6.up (by omega)
    · rw [l6]; simp
end
end Fb
set_option Elab.async false
set_option linter.all false
set_option autoImplicit false
set_option maxRecDepth 100000
set_option maxHeartbeats 4000000
namespace Fb
open PySem PySem.Spec PyProof.Rows L2 Dl Bk
open Fa (ifD ifB ifT ifF two three powOk10 fapp strL strL_length strL_cps txt_join_signs strL_app str_eq)
def sp__law_reading : SpD := fun ds s Q _ => ∃ (c : Int) (p : Nat) (ws : List D) (j : D) (K : Int) (z : Str) (most : Int), ds = [.ref p, .tup [.lst ws, j], .str z, .int most] ∧ (∀ w ∈ ws, IsW K w) ∧ ws.length ≤ 1000 ∧ sgnIn az z = true ∧ 1 ≤ z.length ∧ z.length ≤ 26 ∧ 1 ≤ most ∧ most ≤ 100 ∧ Ps c p s ∧ c ≤ 10000000 ∧
  ∀ (t : Str) s', sgnIn az t = true → 1 ≤ t.length → (t.length : Int) ≤ most → Ps (c + 1000) p s' → Kp p s s' → s'.length = s.length → Q (.str t) s'
def b__law_reading : SD := (dSeq (dAsg (dBin (oF idxF) (dLst (dCons (dBin (oF addF) (dC (.int 1)) (dCall sp__law_take [] (dCons (dVar 0) (dCons (dC (.int 6)) dNil)))) (dCons (dBin (oF addF) (dC (.int 1)) (dCall sp__law_take [] (dCons (dVar 0) (dCons (dVar 3) dNil)))) (dCons (dVar 3) dNil)))) (dCall sp__law_take [] (dCons (dVar 0) (dCons (dC (.int 3)) dNil)))) (gN 4))
  (dSeq (dAsg (dC (.str "")) (gN 5))
  (dSeq (dWhile (dTest (dBin (oF ltF) (dCB lenF (dCons (dVar 5) dNil)) (dVar 4))) (dSeq (dAsg (dLst (dCons (dBin (oF idxF) (dVar 2) (dCall sp__law_take [] (dCons (dVar 0) (dCons (dCB lenF (dCons (dVar 2) dNil)) dNil)))) dNil)) (gN 6))
  (dSeq (dIfS (dAnd (dTest (dBin (oF neF) (dBin (oF idxF) (dVar 1) (dC (.int 0))) (dLst dNil))) (dTest (dBin (oF gtBF) (dCall sp__law_take [] (dCons (dVar 0) (dCons (dC (.int 4)) dNil))) (dC (.int 0))))) (dAsg (dLst (dCons (dBin (oF idxF) (dBin (oF idxF) (dBin (oF idxF) (dVar 1) (dC (.int 0))) (dCall sp__law_take [] (dCons (dVar 0) (dCons (dCB lenF (dCons (dBin (oF idxF) (dVar 1) (dC (.int 0))) dNil)) dNil)))) (dC (.int 0))) dNil)) (gN 6)) dNext)
  (dAsg (dBin (oF addF) (dVar 5) (dBin (oF idxF) (dVar 6) (dC (.int 0)))) (gN 5)))))
  (dRet (dSl (dVar 5) dNoP (dP (dCB min2F (dCons (dVar 4) (dCons (dVar 3) dNil)))))))))
theorem mono__law_reading : MonoSp sp__law_reading := fun _ _ _ _ _ _ f _ ⟨c, p, ws, j, K, z, m, h1, h2, h3, h4, h5, h6, h7, h8, h9, h10, h⟩ => ⟨c, p, ws, j, K, z, m, h1, h2, h3, h4, h5, h6, h7, h8, h9, h10, fun t s' a1 a2 a3 a4 a5 a6 => f _ _ (h t s' a1 a2 a3 a4 a5 a6)⟩
theorem len__law_reading : ∀ ds s Q E, sp__law_reading ds s Q E → ds.length = ["pot", "book", "letters", "most"].length := fun _ _ _ _ ⟨_, _, _, _, _, _, _, h, _⟩ => by rw [h]; rfl
theorem sgn_app {r : Str} {l m : List Nat} (h : sgnIn r (strL l) = true) (g : sgnIn r (strL m) = true) : sgnIn r (strL (l ++ m)) = true := by
  unfold sgnIn at h g ⊢
  rw [strL_cps] at h g ⊢
  rw [List.all_append, h, g]; rfl
section
variable (ds : List D) (s : Sto) (Q : D → Sto → Prop) (E : XD)
theorem pf__law_reading (h : sp__law_reading ds s Q E) : b__law_reading (endsOf Q) (envD ["pot", "book", "letters", "most", "many", "found", "some"] ds) s := by
  obtain ⟨c, p, ws, jn, K, z, most, rfl, hW, hwl, hz, z1, z2, m0, m1, S, hc, q⟩ := h
  refine ⟨_, rfl, c, p, 6, rfl, S, by omega, by decide, by decide, fun i1 s1 a1 b1 S1 K1 l1 => ⟨_, rfl, ?_⟩⟩
  refine ⟨_, rfl, _, rfl, _, p, most, rfl, S1, by omega, by omega, by omega, fun i2 s2 a2 b2 S2 K2 l2 => ⟨_, rfl, _, rfl, Dl.ll, ?_⟩⟩
  refine ⟨_, rfl, _, p, 3, rfl, S2, by omega, by decide, by decide, fun i3 s3 a3 b3 S3 K3 l3 => ?_⟩
  obtain ⟨y, hy, hm⟩ := three (a := D.int (1 + i1)) (b := .int (1 + i2)) (c := .int most) a3 b3
  have hy' : ∃ m : Int, y = .int m ∧ 1 ≤ m ∧ m ≤ 100 := by
    rcases hm with rfl | rfl | rfl
    · exact ⟨_, rfl, by omega, by omega⟩
    · exact ⟨_, rfl, by omega, by omega⟩
    · exact ⟨_, rfl, by omega, by omega⟩
  obtain ⟨many, rfl, y0, y1⟩ := hy'
  refine ⟨_, hy, ?_⟩
  refine ⟨fun m env s' => ∃ (l : List Nat) (o : Option D), m = (many - l.length).toNat ∧ env = [some (.ref p), some (.tup [.lst ws, jn]), some (.str z), some (.int most), some (.int many), some (.str (strL l)), o] ∧ sgnIn az (strL l) = true ∧ (l.length : Int) ≤ many + 40 ∧ Ps (c + 3 + 3 * l.length) p s' ∧ Kp p s s' ∧ s'.length = s.length, ⟨_, [], none, rfl, rfl, rfl, by simp; omega, S3.up (by simp; omega), K1.trans (K2.trans K3), by omega⟩, ?_⟩
  rintro m env s' ⟨l, o, rfl, rfl, hl, hll, S4, K4, l4⟩
  refine ⟨_, rfl, _, rfl, _, rfl, _, rfl, _, rfl, ?_⟩
  rw [strL_length]
  refine ifD (fun hlt => ?_) fun hge => ?_
  · refine ⟨fun env2 s2 => ∃ (l2 : List Nat) (o : Option D), l.length < l2.length ∧ env2 = [some (.ref p), some (.tup [.lst ws, jn]), some (.str z), some (.int most), some (.int many), some (.str (strL l2)), o] ∧ sgnIn az (strL l2) = true ∧ (l2.length : Int) ≤ many + 40 ∧ Ps (c + 3 + 3 * l2.length) p s2 ∧ Kp p s s2 ∧ s2.length = s.length, ?_, ?_⟩
    · rintro e2 s2 ⟨l2, o2, h1, rfl, h2, h3, h4, h5, h6⟩
      exact ⟨_, by omega, l2, o2, rfl, rfl, h2, h3, h4, h5, h6⟩
    · have fin : ∀ (u : Str) (sx : Sto), sgnIn az u = true → 1 ≤ u.length → u.length ≤ 40 → Ps (c + 3 + 3 * l.length + 3) p sx → Kp p s sx → sx.length = s.length → (dAsg (dBin (oF addF) (dVar 5) (dBin (oF idxF) (dVar 6) (dC (.int 0)))) (gN 5)) ⟨fun env2 s2 => ∃ (l2 : List Nat) (o : Option D), l.length < l2.length ∧ env2 = [some (.ref p), some (.tup [.lst ws, jn]), some (.str z), some (.int most), some (.int many), some (.str (strL l2)), o] ∧ sgnIn az (strL l2) = true ∧ (l2.length : Int) ≤ many + 40 ∧ Ps (c + 3 + 3 * l2.length) p s2 ∧ Kp p s s2 ∧ s2.length = s.length, Q, fun _ _ => False, fun _ _ => False⟩ [some (.ref p), some (.tup [.lst ws, jn]), some (.str z), some (.int most), some (.int many), some (.str (strL l)), some (.lst [.str u])] sx := fun u sx hu u1 u2 Sx Kx lx => by
        have eu : strL l ++ u = strL (l ++ u.cps.toList) := by
          conv => lhs; rw [str_eq u]
          exact strL_app _ _
        have ul : u.cps.toList.length = u.length := by simp [Str.length]
        refine ⟨_, rfl, _, rfl, _, rfl, _, adds (le_line (by rw [strL_length]; omega)), ?_⟩
        refine ⟨l ++ u.cps.toList, _, by rw [List.length_append]; omega, by rw [eu]; rfl, ?_, by rw [List.length_append]; push_cast; omega, Sx.up (by rw [List.length_append]; push_cast; omega), Kx, lx⟩
        exact sgn_app hl (by rw [← str_eq u]; exact hu)
      have sgl : ∀ x ∈ z.cps.toList, sgnIn az ⟨#[x]⟩ = true := fun x hx => sgnIn_of (l := [x]) hz (fun c hc => by rw [List.mem_singleton.mp hc]; exact hx)
      refine ⟨_, rfl, _, rfl, _, rfl, _, rfl, _, p, _, rfl, S4, by omega, by omega, by omega, fun i5 s5 a5 b5 S5 K5 l5 => ?_⟩
      obtain ⟨x, hx, mx⟩ := atI_mem (xs := z.cps.toList) a5 (by rw [Array.length_toList]; exact b5)
      refine ⟨_, by rw [idx_s, hx]; rfl, Dl.ll, ?_⟩
      have one : ∀ sx, Ps (c + 3 + 3 * l.length + 3) p sx → Kp p s sx → sx.length = s.length → _ := fun sx Sx Kx lx => fin ⟨#[x]⟩ sx (sgl x mx) (Nat.le_refl 1) (by show 1 ≤ 40; decide) Sx Kx lx
      refine ⟨_, rfl, _, rfl, Nat.zero_le _, _, ne_l0, _, rfl, ifB (fun hne => ?_) fun _ => ?_⟩
      · have hpos : ws ≠ [] := by simpa using hne
        have hwp : 0 < ws.length := List.length_pos_iff.mpr hpos
        refine ⟨_, rfl, _, p, 4, rfl, S5, by omega, by decide, by decide, fun i6 s6 a6 b6 S6 K6 l6 => ⟨_, rfl, _, rfl, ifD (fun _ => ?_) fun _ => ?_⟩⟩
        · refine ⟨_, rfl, _, rfl, _, rfl, _, rfl, _, rfl, _, rfl, _, p, _, rfl, S6, by omega, by omega, by omega, fun i7 s7 a7 b7 S7 K7 l7 => ?_⟩
          obtain ⟨w, hw, mw⟩ := atI_mem (xs := ws) a7 b7
          obtain ⟨r, wr, cc, kk, rfl, ok⟩ := hW w mw
          refine ⟨_, hw, _, rfl, Dl.ll, fin r s7 ok.r1 ok.r2 ok.r3 (S7.up (by omega)) (K4.trans (K5.trans (K6.trans K7))) (by omega)⟩
        · exact one s6 (S6.up (by omega)) (K4.trans (K5.trans K6)) (by omega)
      · exact one s5 (S5.up (by omega)) (K4.trans K5) (by omega)
  · have hmin : (if most < many then most else many) = min many most := by
      rw [Int.min_def]; split <;> split <;> omega
    refine ⟨_, rfl, _, rfl, _, rfl, _, rfl, _, rfl, _, rfl, ?_⟩
    have e : (⟨(cutD (strL l).cps.toList none (some (if most < many then most else many))).toArray⟩ : Str) = strL (l.take (if most < many then most else many).toNat) := by
      rw [strL_cps, cutD_to (by split <;> omega)]; rfl
    rw [e]
    have tl : (l.take (if most < many then most else many).toNat).length = (if most < many then most else many).toNat := by
      rw [List.length_take]; split <;> omega
    refine q _ s' (sgnIn_of hl fun x hx => ?_) (by rw [strL_length, tl]; split <;> omega) (by rw [strL_length, tl]; split <;> omega) (S4.up (by omega)) K4 l4
    rw [strL_cps]
    exact List.mem_of_mem_take hx
end
end Fb
set_option Elab.async false
set_option linter.all false
set_option autoImplicit false
set_option maxRecDepth 100000
set_option maxHeartbeats 4000000
namespace Dl
open PySem PySem.Spec PyProof.Rows L2
mutual
/-- a datum as the library shows data -/
def pyD : D → PyData
  | .bl b => .bool b
  | .int i => .int i
  | .str z => .str z
  | .tup xs => .tuple (pyL xs)
  | .lst xs => .list (pyL xs)
  | .frl xs => .list (pyL xs)
  | .non => .none
  | .dk _ _ => .none
  | .dt _ _ => .none
  | .ref _ => .none
  | .exc _ _ _ => .none
def pyL : List D → List PyData
  | [] => []
  | x :: xs => pyD x :: pyL xs
end
mutual
/-- lists and tuples of plain things alone -/
def seqs : D → Bool
  | .tup xs => seqsL xs
  | .lst xs => seqsL xs
  | .frl xs => seqsL xs
  | .dk _ _ => false
  | .dt _ _ => false
  | .ref _ => false
  | .exc _ _ _ => false
  | _ => true
def seqsL : List D → Bool
  | [] => true
  | x :: xs => seqs x && seqsL xs
end
section
variable {X : Cx} {pins : List (Addr × Obj)} {σ : L2.St} {H F : Hp} {A0 : List Addr} {s : Shared}
theorem reads_list {a : Addr} {its : List Value} {xs : List PyData} {as : List Addr} (h : s.heap.IsList a its.toArray) (r : ReadsAll s.heap its xs as) : ∃ as, Reads s.heap (.ref a) (.list xs) as := by
  obtain ⟨o, h1, h2, n, h3⟩ := h
  exact ⟨_, .list h1 h2 h3 r⟩
theorem reads_tup {a : Addr} {its : List Value} {xs : List PyData} {as : List Addr} (h : s.heap.IsTuple a its.toArray) (r : ReadsAll s.heap its xs as) : ∃ as, Reads s.heap (.ref a) (.tuple xs) as := by
  obtain ⟨o, h1, h2, n, h3⟩ := h
  exact ⟨_, .tuple h1 h2 h3 r⟩
mutual
/-- a datum as it is read in the heap -/
theorem reads_of (I : Inv X pins σ H s) (hF : Same F H) : ∀ (x : D) (v : V) (u : Value), seqs x = true → Dat X.K F A0 x v → RelV v u → ∃ as, Reads s.heap u (pyD x) as
  | .non, _, _, _, h, r => by cases h; cases r; exact ⟨_, .none⟩
  | .bl b, _, _, _, h, r => by cases h; cases r; exact ⟨_, .bool b⟩
  | .int i, _, _, _, h, r => by cases h; obtain ⟨t, rfl⟩ := r; exact ⟨_, .int i t⟩
  | .str z, _, _, _, h, r => by
    cases h with
    | str _ hz => obtain ⟨t, rfl⟩ := r; exact ⟨_, .str z t⟩
  | .tup xs, _, _, p, h, r => by
    cases h with
    | tup hs hd =>
      cases r
      obtain ⟨its, rv, it⟩ := isTup_of I (sqT_same hF hs.q)
      obtain ⟨as, ra⟩ := readsL_of I hF xs _ _ p hd rv
      exact reads_tup it ra
  | .lst xs, _, _, p, h, r => by
    cases h with
    | lst hs hd =>
      cases r
      obtain ⟨its, rv, it⟩ := isList_of I (.of (hF _ _ hs))
      obtain ⟨as, ra⟩ := readsL_of I hF xs _ _ p hd rv
      exact reads_list it ra
  | .frl xs, _, _, p, h, r => by
    cases h with
    | frl hs hd =>
      cases r
      obtain ⟨its, rv, it⟩ := isList_of I (hs.same hF).seq
      obtain ⟨as, ra⟩ := readsL_of I hF xs _ _ p hd rv
      exact reads_list it ra
  | .dk _ _, _, _, p, _, _ => by cases p
  | .dt _ _, _, _, p, _, _ => by cases p
  | .ref _, _, _, p, _, _ => by cases p
  | .exc _ _ _, _, _, p, _, _ => by cases p
theorem readsL_of (I : Inv X pins σ H s) (hF : Same F H) : ∀ (xs : List D) (vs : List V) (us : List Value), seqsL xs = true → DatL X.K F A0 xs vs → Vals vs us → ∃ as, ReadsAll s.heap us (pyL xs) as
  | [], _, _, _, h, r => by cases h; cases r; exact ⟨_, .nil⟩
  | x :: xs, _, _, p, h, r => by
    cases h with
    | cons h1 h2 =>
      cases r with
      | cons r1 r2 =>
        have p' : (seqs x && seqsL xs) = true := p
        obtain ⟨p1, p2⟩ := Bool.and_eq_true_iff.mp p'
        obtain ⟨a1, q1⟩ := reads_of I hF x _ _ p1 h1 r1
        obtain ⟨a2, q2⟩ := readsL_of I hF xs _ _ p2 h2 r2
        exact ⟨_, .cons q1 q2⟩
end
end
mutual
/-- how large: signs and items -/
def wt : D → Nat
  | .str z => z.length
  | .tup xs => wtL xs
  | .lst xs => wtL xs
  | .frl xs => wtL xs
  | _ => 0
def wtL : List D → Nat
  | [] => 0
  | x :: xs => wt x + 1 + wtL xs
end
mutual
/-- plain things of ints below 10 ^ 40 and signs below 2 ^ 32 -/
def tame : D → Bool
  | .int i => decide (i.natAbs < 10 ^ 40)
  | .str z => z.cps.toList.all fun c => decide (c < 16 ^ 8)
  | .tup xs => tameL xs
  | .lst xs => tameL xs
  | .frl xs => tameL xs
  | .non => true
  | .bl _ => true
  | _ => false
def tameL : List D → Bool
  | [] => true
  | x :: xs => tame x && tameL xs
end
mutual
def deep : D → Nat
  | .tup xs => deepL xs + 1
  | .lst xs => deepL xs + 1
  | .frl xs => deepL xs + 1
  | _ => 0
def deepL : List D → Nat
  | [] => 0
  | x :: xs => max (deep x) (deepL xs)
end
end Dl
set_option Elab.async false
set_option linter.all false
set_option autoImplicit false
set_option maxRecDepth 100000
set_option maxHeartbeats 4000000
namespace Dl
open PySem PySem.Spec PyProof.Rows L2
/-- such a def as it stands behind the top -/
structure FunK (K : PySem.W.Frag) (x : Str) (st : Stmt) (b : Str) (f : Addr) (fd : FuncData) : Prop where
  ex : ∃ (oc : Value) (od : Option Addr) (Dx : Addr) (doc pm : Value) (an : Option Addr) (cdv ct : Value) (osl : Array (Option Value)),
    fd = PySem.W.fnOf x x (defArgs st) (defBody st) (defScope st) .none (.ref Dx) doc pm an cdv ct ∧ K.lookup f = some ⟨oc, od, .func fd, osl⟩ ∧ PySem.W.codeIn K cdv x = true ∧ PySem.W.nsIn K Dx b = some (some .none)
  kp : PySem.W.keepIn K (.ref f) = true
theorem funK_mk {K : PySem.W.Frag} {x b : Str} {st : Stmt} {f Dx : Addr} {oc : Value} {od an : Option Addr} {osl : Array (Option Value)} {doc pm cdv ct : Value} (l : K.lookup f = some ⟨oc, od, .func (PySem.W.fnOf x x (defArgs st) (defBody st) (defScope st) .none (.ref Dx) doc pm an cdv ct), osl⟩)
    (q : PySem.W.codeIn K cdv x = true) (k : PySem.W.keepIn K (.ref f) = true) (d : PySem.W.nsIn K Dx b = some (some .none)) : FunK K x st b f (PySem.W.fnOf x x (defArgs st) (defBody st) (defScope st) .none (.ref Dx) doc pm an cdv ct) :=
  ⟨⟨oc, od, Dx, doc, pm, an, cdv, ct, osl, rfl, l, q, d⟩, k⟩
theorem FunK.fun {K : PySem.W.Frag} {x b : Str} {st : Stmt} {f : Addr} {fd : FuncData} (F : FunK K x st b f fd) : Fun K x x st f fd := by
  obtain ⟨oc, od, Dx, doc, pm, an, cdv, ct, osl, h1, h2, h3, _⟩ := F.ex
  exact ⟨⟨oc, od, .ref Dx, doc, pm, an, cdv, ct, osl, h1, h2, h3⟩, F.kp⟩
theorem FunK.funD {K : PySem.W.Frag} {x b : Str} {st : Stmt} {f : Addr} {fd : FuncData} (F : FunK K x st b f fd) : FunD K x x (defArgs st) (defBody st) (defScope st) [] [(b, V.non)] f fd := by
  obtain ⟨oc, od, Dx, doc, pm, an, cdv, ct, osl, h1, h2, h3, h4⟩ := F.ex
  refine ⟨⟨oc, od, .none, .ref Dx, doc, pm, an, cdv, ct, osl, h1, h2, h3, .inl ⟨rfl, rfl⟩, .inr ⟨Dx, rfl, fun q hq => ?_⟩⟩, F.kp⟩
  rw [List.mem_singleton.mp hq]
  exact ⟨_, h4, rfl⟩
/-- how it is bound -/
structure KwB (K : PySem.W.Frag) (fd : FuncData) (ps : List Str) (b : Str) : Prop where
  off : ∃ ds, Vals [V.non] ds ∧ Binds K fd ps ds
  on : KBn K fd ps (ps.length - 1) [b] (fun us ws => us ++ ws) (fun vs zs => vs ++ zs)
theorem kwb_mk {K : PySem.W.Frag} {x b : Str} {st : Stmt} {f : Addr} {fd : FuncData} {ps : List Str} (F : FunK K x st b f fd) (n : Nat) (hn : ps.length = n + 1)
    (h0 : ∀ (Dx : Addr) (doc pm : Value) (an : Option Addr) (cdv ct : Value) (us : List Value) (k : Value), us.length = n → KwChain Dx [(b, k)] (bindArgs (PySem.W.fnOf x x (defArgs st) (defBody st) (defScope st) .none (.ref Dx) doc pm an cdv ct) ⟨us, []⟩) (ps.zip (us ++ [k])))
    (h1 : ∀ (Dx : Addr) (doc pm : Value) (an : Option Addr) (cdv ct : Value) (us : List Value) (k : Value), us.length = n → KwChain Dx [] (bindArgs (PySem.W.fnOf x x (defArgs st) (defBody st) (defScope st) .none (.ref Dx) doc pm an cdv ct) ⟨us, [(b, k)]⟩) (ps.zip (us ++ [k]))) : KwB K fd ps b := by
  refine ⟨F.funD.binds0 n (by simp) (by rw [hn]; rfl) fun Dx doc pm an cdv ct us ks l1 l2 => ?_, ?_⟩
  · match ks, l2 with
    | [k], _ => exact h0 Dx doc pm an cdv ct us k l1
  · have e := F.funD.kbinds0 (ps := ps) n [b] [] (fun us _ ws => us ++ ws) (by simp) (fun _ h => nomatch h) (fun r1 _ r3 => r1.append r3) fun Dx doc pm an cdv ct us mv ws l1 l2 l3 => by
      match mv, l2, ws, l3 with
      | [], _, [k], _ => exact h1 Dx doc pm an cdv ct us k l1
    obtain ⟨mv, e⟩ := e
    rw [show ps.length - 1 = n by omega]
    exact e
/-- a def of the module that keeps its promise; its last parameter is asked by a keyword -/
def KnK (P : Program) (w : World) (K : PySem.W.Frag) (mg : Str → Option Value) (base : Heap) (x b : Str) (k : Nat) (ps : List Str) (sp : SpD) : Prop :=
  ∃ (f : Addr) (fd : FuncData), FnD P w K mg base CX0 k f fd ps sp ∧ mg x = some (.ref f) ∧ PySem.W.keepIn K (.ref f) = true ∧ KwB K fd ps b
def AtK (K : PySem.W.Frag) (mg : Str → Option Value) (x b : Str) (st : Stmt) (ps : List Str) : Prop :=
  ∃ (f : Addr) (fd : FuncData), Fun K x x st f fd ∧ mg x = some (.ref f) ∧ KwB K fd ps b
theorem KnK.mk {P : Program} {w : World} {K : PySem.W.Frag} {mg : Str → Option Value} {base : Heap} {x b : Str} {st : Stmt} {N ps : List Str} {k : Nat} {sp : SpD} {tb : SD} (a : AtK K mg x b st ps) (S : FnScope N ps (defScope st)) (mono : MonoSp sp)
    (len : ∀ ds s Q E, sp ds s Q E → ds.length = ps.length)
    (body : ∀ (f : Addr) (cdv : Value) (A : Around) (outer : List PySem.Env) (s : Shared) (H : Hp) (E : XK), RoomG k (A.deeper (envOfC x (defScope st) s.heap.objs.size f cdv)) → PSsD (dx0 (cxOf CX0 P w K mg base N x (defScope st) f cdv A outer s H E).nox) (defBody st) tb)
    (h : ∀ ds s Q E, sp ds s Q E → tb (endsOf Q) (envD N ds) s) : KnK P w K mg base x b (k + 1) ps sp := by
  obtain ⟨f, fd, F, hm, hb⟩ := a
  exact ⟨f, fd, fnD F S mono len (body f) h, hm, F.kp, hb⟩
section
variable {pos p : Pos} {k : Nat} {ps : List Str} {sp : SpD} {x b : Str} {e e2 : Expr} {es : List Expr} {t : AD} {t2 : ED}
theorem pd_kk {X : DX} (c : KnK X.prog X.w X.K X.mg X.base x b k ps sp) (hr : RoomG k X.A) (hg : Gl X x) (ha : PAD X (e :: es) t)
    (h1 : starEach (e :: es) X.env = (false, eval e X.env) :: starEach es X.env := by rfl) (hpl : (backTo pos (starEach es X.env)).any (·.1) = false := by rfl) (hdb : (x == ("__debug__" : Str)) = false := by decide) : PD X (.Call (.Name x p) (e :: es) [] pos) (dCall sp [.non] t) := by
  obtain ⟨f, fd, F, hm, hk, hb⟩ := c
  obtain ⟨ds, r, hb⟩ := hb.off
  exact pd_call F hr hg hm hk hb r (fun _ _ => .cons .non .nil) ha h1 hpl hdb
/-- f(.., b = e2) -/
def dCallK (sp : SpD) (t : AD) (t2 : ED) : ED := fun env s Q => t env s fun xs s1 => t2 env s1 fun y s2 => sp (xs ++ [y]) s2 Q fun _ _ _ => False
theorem mono_callK (ms : MonoSp sp) (mt : Mono t) (m2 : Mono t2) : Mono (dCallK sp t t2) := fun _ _ _ _ g h => mt _ _ _ _ (fun _ _ q => m2 _ _ _ _ (fun _ _ q => ms _ _ _ _ _ _ g (fun _ _ _ h => h) q) q) h
def tCallKw (K : PySem.W.Frag) (mg : Str → Option Value) (sp : SpD) (n : Nat) (t : TA) (t2 : TE) : TE := fun σ H Q => t σ H fun vs H1 => tCons t2 tNil σ H1 fun zs H2 => vs.length = n ∧ zs.length = 1 ∧ liftSp K mg sp (vs ++ zs) H2 Q fun _ _ _ => False
theorem pe_callKw {X : Cx} {f : Addr} {fd : FuncData} {t : TA} {t2 : TE} {kp : Pos} (F : FnD X.prog X.w X.K X.mg X.base CX0 k f fd ps sp) (hr : RoomG k X.A) (hg : Gl X x) (hm : X.mg x = some (.ref f)) (hk : PySem.W.keepIn X.K (.ref f) = true) (hb : KBn X.K fd ps (ps.length - 1) [b] (fun us ws => us ++ ws) (fun vs zs => vs ++ zs))
    (ha : PA X (e :: es) t) (h2 : PE X e2 t2) (hall : (backToKw pos (keywordEach [⟨some b, e2, kp⟩] X.env)).all (·.1.isSome) = true) (hks : (backToKw pos (keywordEach [⟨some b, e2, kp⟩] X.env)).filterMap (·.1) = [b])
    (hdb : (x == ("__debug__" : Str)) = false) (he : starEach (e :: es) X.env = (false, eval e X.env) :: starEach es X.env) (hpl : ((backTo pos (starEach (e :: es) X.env)).any (·.1) || (backToKw pos (keywordEach [⟨some b, e2, kp⟩] X.env)).any (·.1.isNone)) = false) :
    PE X (.Call (.Name x p) (e :: es) [⟨some b, e2, kp⟩] pos) (tCallKw X.K X.mg sp (ps.length - 1) t t2) := by
  constructor
  intro pins s σ H Q I h
  apply wpAny_Call_Name_kw
  refine ld_glob I hg hm ?_ hdb
  have args := ha.run pos pins s σ H _ I h
  refine PySem.W.callWith_KW (h₀ := X.base) I.ok.mod.kin hk hall (thn args fun us s1 z => ?_) hpl he
  obtain ⟨vs, H1, J, r, q⟩ := z
  have kw : PK X [⟨some b, e2, kp⟩] (tCons t2 tNil) := pk_cons h2 pk_nil
  refine thn (kw.run pos pins s1 σ H1 _ J q) fun ws s2 z => ?_
  obtain ⟨zs, H2, J2, r2, l1, l2, q2⟩ := z
  refine ⟨J2.kIn, ?_⟩
  rw [hks]
  exact F.go (E := fun _ _ _ => False) hr (fun pins H s e s' I c => L2.pass0 (X := X) pins σ H s e s' I c) J2 (hb.to s2 us ws J2.kIn (r.length.symm.trans l1) (r2.length.symm.trans l2)) (hb.rel r r2) q2
theorem pd_kkw {X : DX} {kp : Pos} (c : KnK X.prog X.w X.K X.mg X.base x b k ps sp) (hr : RoomG k X.A) (hg : Gl X x) (ha : PAD X (e :: es) t) (h2 : PD X e2 t2) (hall : (backToKw pos (keywordEach [⟨some b, e2, kp⟩] X.env)).all (·.1.isSome) = true := by rfl)
    (hks : (backToKw pos (keywordEach [⟨some b, e2, kp⟩] X.env)).filterMap (·.1) = [b] := by rfl) (hdb : (x == ("__debug__" : Str)) = false := by decide) (he : starEach (e :: es) X.env = (false, eval e X.env) :: starEach es X.env := by rfl)
    (hpl : ((backTo pos (starEach (e :: es) X.env)).any (·.1) || (backToKw pos (keywordEach [⟨some b, e2, kp⟩] X.env)).any (·.1.isNone)) = false := by rfl) : PD X (.Call (.Name x p) (e :: es) [⟨some b, e2, kp⟩] pos) (dCallK sp t t2) := by
  obtain ⟨f, fd, F, hm, hk, hb⟩ := c
  refine ⟨pe_imp (pe_callKw F hr hg hm hk hb.on ha.pa h2.pe hall hks hdb he hpl) fun σ H Q ⟨env, s, A, B, w, h⟩ => ?_, mono_callK F.mono ha.mono h2.mono⟩
  refine rdA_go ha.mono w h fun xs s1 vs H1 A1 q w1 e1 dv => ?_
  refine rdE_go h2.mono w1 q fun y s2 v H2 A2 q2 w2 e2 dy => ?_
  have hl := F.len _ _ _ _ q2
  refine ⟨?_, rfl, xs ++ [y], s2, A2, B, w2.rs, (dv.ext e2).append (.cons dy .nil), F.mono _ _ _ _ _ _ (fun d s' q => PostE.from (e1.trans e2) q) (fun _ _ _ h => h.elim) q2⟩
  rw [dv.length]
  rw [List.length_append, List.length_singleton] at hl
  omega
end
/-- name += e, of numbers -/
def iaddF (_ : Sto) (x y : D) : Option D := match x, y with
  | .int i, .int j => some (.int (i + j))
  | _, _ => none
theorem iopx_add {X : Cx} : OpX X (inplaceOp .Add) (oF iaddF) := by
  have h : OpX X (inplaceOp .Add) (oII fun i j => .int (i + j)) := opx_ii iop_add fun _ _ _ _ => .int _
  refine h.imp ?_
  rintro x y s Q ⟨z, e, q⟩
  unfold iaddF at e
  split at e
  · cases e; exact ⟨_, _, rfl, rfl, q⟩
  · cases e
end Dl
set_option Elab.async false
set_option linter.all false
set_option autoImplicit false
set_option maxRecDepth 100000
set_option maxHeartbeats 4000000
namespace Fb
open PySem PySem.Spec PyProof.Rows L2 Dl Bk
open Fa (ifD ifB ifT ifF two three powOk10 fapp strL strL_length strL_cps txt_join_signs txt_join_cps strL_app str_eq)
/-- the reading of a word, as signs -/
def rdOf : D → List Nat
  | .tup (.str r :: _) => r.cps.toList
  | _ => []
def standsAt (t : List Nat) (i : Nat) (w : D) : Bool := decide ((t.take (i + (rdOf w).length)).drop i = rdOf w)
def rawD (c : Nat) (edge : Int) : D := .tup [.str ⟨#[c]⟩, .str ⟨#[c]⟩, .int 1000, .int edge]
/-- a word of the book, or a raw one -/
def Part (ws : List D) (edge : Int) (x : D) : Prop := x ∈ ws ∨ ∃ c, c ∈ (az : Str).cps.toList ∧ x = rawD c edge
theorem cps_len (r : Str) : r.cps.toList.length = r.length := by simp [Str.length]
theorem stands_len {t : List Nat} {i : Nat} {w : D} (h : standsAt t i w = true) (hw : 1 ≤ (rdOf w).length) : i + (rdOf w).length ≤ t.length ∧ t.take (i + (rdOf w).length) = t.take i ++ rdOf w := by
  have h' : (t.take (i + (rdOf w).length)).drop i = rdOf w := of_decide_eq_true h
  have e := congrArg List.length h'
  rw [List.length_drop, List.length_take] at e
  have hl : i + (rdOf w).length ≤ t.length := by omega
  refine ⟨hl, ?_⟩
  have := List.take_append_drop i (t.take (i + (rdOf w).length))
  rw [h', List.take_take, Nat.min_eq_left (by omega)] at this
  exact this.symm
def sp__law_at : SpD := fun ds s Q _ => ∃ (ws rows : List D) (z : Str) (i : Nat) (K : Int), ds = [.tup [.lst ws, .lst rows], .str z, .int (i : Nat)] ∧ (∀ w ∈ ws, IsW K w) ∧ ws.length ≤ 1000 ∧ rows.length ≤ 1000 ∧ z.length ≤ 1000 ∧ i < z.length ∧
  Q (.lst (ws.filter (standsAt z.cps.toList i) ++ [rawD (z.cps.toList.getD i 0) ((rows.length : Int) - 1)])) s
theorem mono__law_at : MonoSp sp__law_at := fun _ _ _ _ _ _ f _ ⟨ws, rows, z, i, K, h1, h2, h3, h4, h5, h6, h⟩ => ⟨ws, rows, z, i, K, h1, h2, h3, h4, h5, h6, f _ _ h⟩
theorem len__law_at : ∀ ds s Q E, sp__law_at ds s Q E → ds.length = ["book", "reading", "place"].length := fun _ _ _ _ ⟨_, _, _, _, _, h, _⟩ => by rw [h]; rfl
def b__law_at : SD := (dSeq (dAsg (dLc (iW (dBin (oF idxF) (dVar 0) (dC (.int 0)))) (CT.g (.one 4)) (dTest (dBin (oF eqF) (dSl (dVar 1) (dP (dVar 2)) (dP (dBin (oF addF) (dVar 2) (dCB lenF (dCons (dBin (oF idxF) (dVar 4) (dC (.int 0))) dNil))))) (dBin (oF idxF) (dVar 4) (dC (.int 0))))) (dVar 4) [4]) (gN 3))
  (dRet (dBin (oF addF) (dVar 3) (dLst (dCons (dTup (dCons (dBin (oF idxF) (dVar 1) (dVar 2)) (dCons (dBin (oF idxF) (dVar 1) (dVar 2)) (dCons (dC (.int 1000)) (dCons (dBin (oF subF) (dCB lenF (dCons (dBin (oF idxF) (dVar 0) (dC (.int 1))) dNil)) (dC (.int 1))) dNil))))) dNil)))))
theorem cut_stands {z r : Str} {i : Nat} (x1 x2 x3 : D) : ((⟨(cutD z.cps.toList (some (i : Nat)) (some ((i : Nat) + (r.length : Int)))).toArray⟩ : Str) == r) = standsAt z.cps.toList i (.tup [.str r, x1, x2, x3]) := by
  rw [cutD_mid (by omega) (by omega)]
  have e1 : ((i : Nat) + (r.length : Int)).toNat = i + r.cps.toList.length := by rw [cps_len]; omega
  have e2 : ((i : Nat) : Int).toNat = i := by omega
  rw [e1, e2]
  show _ = decide ((z.cps.toList.take (i + r.cps.toList.length)).drop i = r.cps.toList)
  by_cases h : (z.cps.toList.take (i + r.cps.toList.length)).drop i = r.cps.toList
  · rw [decide_eq_true h, h]; simp
  · rw [decide_eq_false h]
    refine beq_false_of_ne fun y => h ?_
    have := congrArg (fun (x : Str) => x.cps.toList) y
    simpa using this
theorem idx_sign {z : Str} {i : Nat} (h : i < z.length) {s : Sto} : idxF s (.str z) (.int (i : Nat)) = some (.str ⟨#[z.cps.toList.getD i 0]⟩) := by
  have hl : i < z.cps.toList.length := by rw [cps_len]; exact h
  rw [idx_s, atI_in (by omega) (by omega), Int.toNat_natCast, List.getElem?_eq_getElem hl, List.getD_eq_getElem?_getD, List.getElem?_eq_getElem hl]; rfl
section
variable (ds : List D) (s : Sto) (Q : D → Sto → Prop) (E : XD)
theorem pf__law_at (h : sp__law_at ds s Q E) : b__law_at (endsOf Q) (envD ["book", "reading", "place", "found", "word"] ds) s := by
  obtain ⟨ws, rows, z, i, K, rfl, hW, hwl, hrl, hz, hi, q⟩ := h
  (repeat (first | refine ⟨_, rfl, ?_⟩ | refine ⟨trivial, ?_⟩ | refine ⟨Dl.ll, ?_⟩ | refine ⟨_, _, isW_lst, Dl.ll, ?_⟩))
  refine ⟨_, _, isW_lst, le_line (by omega), ?_⟩
  refine lcD_pure (standsAt z.cps.toList i) id trivial (fun w hw k1 k0 h1 h0 => ?_) ?_
  · obtain ⟨r, wr, cc, kk, rfl, ok⟩ := hW w hw
    refine ⟨_, rfl, _, rfl, _, rfl, _, rfl, _, rfl, _, rfl, _, rfl, _, rfl, _, rfl, _, rfl, _, rfl, _, rfl, _, eq_ss, _, rfl, ?_⟩
    show if ((⟨(cutD z.cps.toList (some (i : Nat)) (some ((i : Nat) + (r.length : Int)))).toArray⟩ : Str) == r) = true then _ else _
    rw [cut_stands (.str wr) (.int cc) (.int kk)]
    exact ifB (fun ht => ⟨_, rfl, h1 ht⟩) fun ht => h0 ht
  · have hfl : (ws.filter (standsAt z.cps.toList i)).length ≤ ws.length := List.length_filter_le ..
    rw [List.map_id]
    refine ⟨_, rfl, _, rfl, _, rfl, _, idx_sign hi, _, rfl, _, rfl, _, idx_sign hi, _, rfl, _, rfl, _, rfl, _, rfl, Dl.ll, Dl.ll, _, addl (le_line (by show _ + 1 ≤ _; omega)), ?_⟩
    exact q
end
end Fb
set_option Elab.async false
set_option linter.all false
set_option autoImplicit false
set_option maxRecDepth 100000
set_option maxHeartbeats 4000000
namespace Fb
open PySem PySem.Spec PyProof.Rows L2 Dl Bk
open Fa (ifD ifB ifT ifF two three powOk10 fapp strL strL_length strL_cps txt_join_signs txt_join_cps strL_app str_eq)
def isRaw (edge : Int) : D → Bool
  | .tup [.str a, .str b, .int c, .int d] => sgnIn az a && (decide ((a.length : Int) = 1) && (sgnIn az b && ((b == a) && ((c == 1000) && (d == edge)))))
  | _ => false
def isN (n : Int) : D → Bool
  | .int i => i == n
  | _ => false
def isPart (ws : List D) (edge : Int) (x : D) : Bool := isRaw edge x || (isWd x && inAny ws x)
def partsTo (ws : List D) (edge : Int) (r : Str) : D → Bool
  | .lst xs => (!decide (xs = [])) && (xs.all (isPart ws edge) && decide ((xs.map rdOf).flatten = r.cps.toList))
  | _ => false
theorem eq_word {a b a' b' : Str} {c d c' d' : Int} : eqN 59 (.tup [.str a, .str b, .int c, .int d]) (.tup [.str a', .str b', .int c', .int d']) = some (a == a' && (b == b' && (c == c' && d == d'))) := by
  simp [eqN, allO]
theorem word_in {K : Int} {ws : List D} {a b : Str} {c d : Int} (h : ∀ w ∈ ws, IsW K w) : InOk ws (.tup [.str a, .str b, .int c, .int d]) ∧ (inAny ws (.tup [.str a, .str b, .int c, .int d]) = true ↔ D.tup [.str a, .str b, .int c, .int d] ∈ ws) := by
  refine ⟨⟨?_, fun w hw => ?_⟩, ?_⟩
  · have : ∀ l : List D, (∀ w ∈ l, IsW K w) → pureL l = true := fun l => by
      induction l with
      | nil => intro _; rfl
      | cons w l ih =>
        intro hw
        obtain ⟨r', z', c', k', rfl, _⟩ := hw w List.mem_cons_self
        have := ih fun y hy => hw y (List.mem_cons_of_mem _ hy)
        show (pureD (.tup [.str r', .str z', .int c', .int k']) && pureL l) = true
        rw [this]; rfl
    exact this ws h
  · obtain ⟨r', z', c', k', rfl, _⟩ := h w hw
    exact ⟨_, eq_word⟩
  · have key : ∀ w ∈ ws, ((eqN 59 w (.tup [.str a, .str b, .int c, .int d])).getD false) = true ↔ w = .tup [.str a, .str b, .int c, .int d] := fun w hw => by
      obtain ⟨r', z', c', k', rfl, _⟩ := h w hw
      rw [eq_word]
      simp
    unfold inAny
    rw [List.any_eq_true]
    constructor
    · rintro ⟨w, hw, e⟩
      rw [← (key w hw).mp e]; exact hw
    · intro hm
      exact ⟨_, hm, (key _ hm).mpr rfl⟩
theorem isRaw_raw {c : Nat} {edge : Int} (h : c ∈ (az : Str).cps.toList) : isRaw edge (rawD c edge) = true := by
  have e : sgnIn az ⟨#[c]⟩ = true := by
    unfold sgnIn
    rw [List.all_eq_true]
    intro d hd
    have : d = c := by simpa using hd
    rw [this]; exact decide_eq_true h
  show (sgnIn az ⟨#[c]⟩ && (decide (((⟨#[c]⟩ : Str).length : Int) = 1) && (sgnIn az ⟨#[c]⟩ && (((⟨#[c]⟩ : Str) == ⟨#[c]⟩) && (((1000 : Int) == 1000) && (edge == edge)))))) = true
  rw [e]
  simp [Str.length]
theorem Part.is {K : Int} {ws : List D} {edge : Int} {x : D} (h : Part ws edge x) (hW : ∀ w ∈ ws, IsW K w) : isPart ws edge x = true := by
  unfold isPart
  rcases h with h | ⟨c, hc, rfl⟩
  · have hw := (hW x h).wd
    obtain ⟨a, b, c, d, rfl, _⟩ := hW x h
    rw [hw, (word_in hW).2.mpr h]
    simp
  · rw [isRaw_raw hc]; rfl
def sp_is_raw : SpD := fun ds s Q _ => ∃ ws rows x, ds = [.tup [.lst ws, .lst rows], x] ∧ rows.length ≤ 1000 ∧ 1 ≤ rows.length ∧ szB NN x = true ∧ Q (.bl (isRaw ((rows.length : Int) - 1) x)) s
theorem mono_is_raw : MonoSp sp_is_raw := fun _ _ _ _ _ _ f _ ⟨ws, rows, x, h1, h2, h3, h4, h⟩ => ⟨ws, rows, x, h1, h2, h3, h4, f _ _ h⟩
theorem len_is_raw : ∀ ds s Q E, sp_is_raw ds s Q E → ds.length = ["book", "thing"].length := fun _ _ _ _ ⟨_, _, _, h, _⟩ => by rw [h]; rfl
def sp_parts_to : SpD := fun ds s Q _ => ∃ ws rows r x K, ds = [.tup [.lst ws, .lst rows], .str r, x] ∧ (∀ w ∈ ws, IsW K w) ∧ rows.length ≤ 1000 ∧ 1 ≤ rows.length ∧ ws.length ≤ 1000 ∧ szB 1000 x = true ∧ Q (.bl (partsTo ws ((rows.length : Int) - 1) r x)) s
theorem mono_parts_to : MonoSp sp_parts_to := fun _ _ _ _ _ _ f _ ⟨ws, rows, r, x, K, h1, h2, h3, h4, h5, h6, h⟩ => ⟨ws, rows, r, x, K, h1, h2, h3, h4, h5, h6, f _ _ h⟩
theorem len_parts_to : ∀ ds s Q E, sp_parts_to ds s Q E → ds.length = ["book", "reading", "thing"].length := fun _ _ _ _ ⟨_, _, _, _, _, h, _⟩ => by rw [h]; rfl
def b_is_raw : SD := (dSeq (dIfS (dOr (dNot (dTest (dUn (isiF "tuple") (dVar 1)))) (dOr (dTest (dBin (oF neF) (dCB lenF (dCons (dVar 1) dNil)) (dC (.int 4)))) (dOr (dNot (dTest (dCall sp_is_small [] (dCons (dBin (oF idxF) (dVar 1) (dC (.int 0))) dNil)))) (dTest (dBin (oF neF) (dCB lenF (dCons (dBin (oF idxF) (dVar 1) (dC (.int 0))) dNil)) (dC (.int 1))))))) (dRet (dC (.bl false))) dNext)
  (dSeq (dIfS (dOr (dNot (dTest (dCall sp_is_small [] (dCons (dBin (oF idxF) (dVar 1) (dC (.int 1))) dNil)))) (dTest (dBin (oF neF) (dBin (oF idxF) (dVar 1) (dC (.int 1))) (dBin (oF idxF) (dVar 1) (dC (.int 0)))))) (dRet (dC (.bl false))) dNext)
  (dRet (dAndV (dCall sp_is_count [] (dCons (dBin (oF idxF) (dVar 1) (dC (.int 2))) dNil)) (dAndV (dBin (oF eqF) (dBin (oF idxF) (dVar 1) (dC (.int 2))) (dC (.int 1000))) (dAndV (dCall sp_is_count [] (dCons (dBin (oF idxF) (dVar 1) (dC (.int 3))) dNil)) (dBin (oF eqF) (dBin (oF idxF) (dVar 1) (dC (.int 3))) (dBin (oF subF) (dCB lenF (dCons (dBin (oF idxF) (dVar 0) (dC (.int 1))) dNil)) (dC (.int 1))))))))))
def b_parts_to : SD := (dSeq (dIfS (dOr (dNot (dTest (dUn (isiF "list") (dVar 2)))) (dTest (dBin (oF eqF) (dVar 2) (dLst dNil)))) (dRet (dC (.bl false))) dNext)
  (dSeq (dFor (iW (dVar 2)) (gN 3) (dIfS (dAnd (dNot (dTest (dCall sp_is_raw [] (dCons (dVar 0) (dCons (dVar 3) dNil))))) (dOr (dNot (dTest (dCall sp_is_word [] (dCons (dVar 3) dNil)))) (dTest (dBin (oOr (oInS Bool.not) (oIn Bool.not)) (dVar 3) (dBin (oF idxF) (dVar 0) (dC (.int 0))))))) (dRet (dC (.bl false))) dNext))
  (dRet (dBin (oF eqF) (dJoin (dC (.str "")) (dLc (iW (dVar 2)) (CT.g (.one 3)) dYes (dBin (oF idxF) (dVar 3) (dC (.int 0))) [3])) (dVar 1)))))
/-- the signs of readings, one behind another -/
theorem join_rd {env : En} {s : Sto} {Q : D → Sto → Prop} {te : ED} {j : Nat} {xs : List D} (hte : ∀ P : D → Sto → Prop, P (.lst xs) s → te env s P) (hj : j < env.length) (hl : xs.length ≤ 10000) (hx : ∀ x ∈ xs, ∃ (r : Str) (x1 x2 x3 : D), x = .tup [.str r, x1, x2, x3] ∧ r.length ≤ 1000)
    (q : Q (.str (strL (xs.map rdOf).flatten)) s) : dJoin (dC (.str "")) (dLc (iW te) (CT.g (.one j)) dYes (dBin (oF idxF) (dVar j) (dC (.int 0))) [j]) env s Q := by
  refine ⟨_, rfl, hte _ ?_⟩
  refine ⟨_, _, isW_lst, le_line (by omega), ?_⟩
  refine lcD_pure (fun _ => true) (fun w => .str (strL (rdOf w))) trivial (fun w hw k1 k0 h1 h0 => ?_) ?_
  · obtain ⟨r, x1, x2, x3, rfl, hr⟩ := hx w hw
    have e : strL (rdOf (.tup [.str r, x1, x2, x3])) = r := (str_eq r).symm
    have h2 := h1 rfl
    rw [e] at h2
    refine ⟨.tup [.str r, x1, x2, x3], ?_, _, rfl, h2⟩
    show ((wipeE env [j]).set j _)[j]? = _
    rw [List.getElem?_set_self (by rw [wipeE_length]; exact hj)]
  · rw [List.filter_eq_self.mpr (fun _ _ => rfl)]
    have em : xs.map (fun w => D.str (strL (rdOf w))) = (xs.map fun w => strL (rdOf w)).map D.str := by rw [List.map_map]; rfl
    rw [em]
    have hsum : ∀ l : List D, (∀ x ∈ l, ∃ (r : Str) (x1 x2 x3 : D), x = .tup [.str r, x1, x2, x3] ∧ r.length ≤ 1000) → ((l.map fun w => strL (rdOf w)).map (·.length)).sum ≤ 1000 * l.length := fun l => by
      induction l with
      | nil => intro _; exact Nat.le_refl _
      | cons w l ih =>
        intro h
        obtain ⟨r, x1, x2, x3, rfl, hr⟩ := h w List.mem_cons_self
        have := ih fun y hy => h y (List.mem_cons_of_mem _ hy)
        rw [List.map_cons, List.map_cons, List.sum_cons, List.length_cons, strL_length]
        have e : (rdOf (.tup [.str r, x1, x2, x3])).length = r.length := cps_len r
        omega
    have := hsum xs hx
    have e0 : ("" : Str).length = 0 := rfl
    refine ⟨_, _, rfl, strsOf_map _, by rw [e0]; omega, ?_⟩
    have ej : Txt.join "" (xs.map fun w => strL (rdOf w)) = strL (xs.map rdOf).flatten := by
      have h := txt_join_cps (xs.map fun w => strL (rdOf w))
      rw [str_eq (Txt.join "" _), h]
      congr 1
      rw [List.flatMap_map, List.flatMap_def]
      rfl
    rw [ej]
    exact q
section
variable (ds : List D) (s : Sto) (Q : D → Sto → Prop) (E : XD)
theorem pf_is_raw (h : sp_is_raw ds s Q E) : b_is_raw (endsOf Q) (envD ["book", "thing"] ds) s := by
  obtain ⟨ws, rows, x, rfl, hr, hr1, hx, q⟩ := h
  cases x with
  | frl _ => cases hx
  | ref _ => cases hx
  | exc _ _ _ => cases hx
  | tup xs =>
    obtain ⟨_, hxs⟩ := sz_tup.mp hx
    by_cases h4 : ∃ a b c d, xs = [a, b, c, d]
    · obtain ⟨a, b, c, d, rfl⟩ := h4
      have e : ∀ y ∈ [a, b, c, d], szB NN y = true := hxs
      refine ⟨_, rfl, _, rfl, _, rfl, _, rfl, _, rfl, _, rfl, _, rfl, ?_⟩
      refine ⟨_, rfl, _, rfl, _, rfl, e a (by simp), _, rfl, ?_⟩
      cases a with
      | str a =>
        show if (!sgnIn az a) = true then _ else _
        cases hA : sgnIn az a with
        | false =>
          have e0 : isRaw ((rows.length : Int) - 1) (.tup [.str a, b, c, d]) = false := by
            unfold isRaw
            split
            · rename_i h; cases h; rw [hA]; rfl
            · rfl
          rw [e0] at q
          exact q
        | true =>
          refine ⟨_, rfl, _, rfl, _, rfl, _, ne_ii, _, rfl, ?_⟩
          refine ifB (fun hn => ?_) fun hn => ?_
          · have e0 : isRaw ((rows.length : Int) - 1) (.tup [.str a, b, c, d]) = false := by
              unfold isRaw
              split
              · rename_i h; cases h; rw [hA, decide_eq_false (by simpa using hn)]; rfl
              · rfl
            rw [e0] at q
            exact q
          · have hl : (a.length : Int) = 1 := by simpa using hn
            refine ⟨_, rfl, _, rfl, _, rfl, e b (by simp), _, rfl, ?_⟩
            cases b with
            | str b =>
              show if (!sgnIn az b) = true then _ else _
              cases hB : sgnIn az b with
              | false =>
                have e0 : isRaw ((rows.length : Int) - 1) (.tup [.str a, .str b, c, d]) = false := by
                  unfold isRaw
                  split
                  · rename_i h; cases h; rw [hA, decide_eq_true hl, hB]; rfl
                  · rfl
                rw [e0] at q
                exact q
              | true =>
                refine ⟨_, rfl, _, rfl, _, rfl, _, rfl, _, ne_ss, _, rfl, ?_⟩
                refine ifB (fun hn => ?_) fun hn => ?_
                · have hba : (b == a) = false := by simpa using hn
                  have e0 : isRaw ((rows.length : Int) - 1) (.tup [.str a, .str b, c, d]) = false := by
                    unfold isRaw
                    split
                    · rename_i h; cases h; rw [hA, decide_eq_true hl, hB, hba]; rfl
                    · rfl
                  rw [e0] at q
                  exact q
                · have hba : (b == a) = true := by
                    cases h : (b == a) with
                    | true => rfl
                    | false => rw [h] at hn; cases hn
                  simp only [r_ret, r_endsR]
                  have ec : szB NN c = true := e c (by simp)
                  have ed : szB NN d = true := e d (by simp)
                  have main : isRaw ((rows.length : Int) - 1) (.tup [.str a, .str b, c, d]) = (isCnt c && (isN 1000 c && (isCnt d && isN ((rows.length : Int) - 1) d))) := by
                    cases c with
                    | int c =>
                      cases d with
                      | int d =>
                        show (sgnIn az a && (decide ((a.length : Int) = 1) && (sgnIn az b && ((b == a) && ((c == 1000) && (d == ((rows.length : Int) - 1))))))) = (decide (0 ≤ c) && ((c == 1000) && (decide (0 ≤ d) && (d == ((rows.length : Int) - 1)))))
                        rw [hA, hB, hba, decide_eq_true hl, Bool.eq_iff_iff]
                        simp only [Bool.and_eq_true, decide_eq_true_eq, beq_iff_eq, true_and]
                        omega
                      | _ =>
                        show false = (decide (0 ≤ c) && ((c == 1000) && (false && false)))
                        simp
                    | _ => rfl
                  rw [main] at q
                  dsimp only [dNext, dRet, endsOf]
                  refine andV_bl (fun P p => ⟨_, rfl, _, rfl, _, rfl, ec, p⟩) (fun hc => ?_) q
                  cases c with
                  | int c =>
                    intro P p
                    refine andV_bl (fun P p => ⟨_, rfl, _, rfl, _, eq_ii, p⟩) (fun _ => ?_) p
                    intro P p
                    refine andV_bl (fun P p => ⟨_, rfl, _, rfl, _, rfl, ed, p⟩) (fun hd => ?_) p
                    cases d with
                    | int d =>
                      intro P p
                      exact ⟨_, rfl, _, rfl, _, rfl, _, rfl, _, rfl, _, rfl, _, eq_ii, p⟩
                    | _ => cases hd
                  | _ => cases hc
            | _ => exact q
      | _ => exact q
    · have hl : xs.length ≠ 4 := fun h => h4 (by
        match xs, h with
        | [a, b, c, d], _ => exact ⟨a, b, c, d, rfl⟩)
      have e0 : isRaw ((rows.length : Int) - 1) (.tup xs) = false := by
        unfold isRaw
        split
        · rename_i h; cases h; exact absurd ⟨_, _, _, _, rfl⟩ h4
        · rfl
      rw [e0] at q
      have hl' : (!(((xs.length : Nat) : Int) == 4)) = true := by
        have : ¬ ((xs.length : Nat) : Int) = 4 := by omega
        simp [this]
      refine ⟨_, rfl, _, rfl, _, rfl, _, rfl, _, rfl, _, ne_ii, _, rfl, ?_⟩
      rw [hl']
      exact q
  | _ => exact ⟨_, rfl, _, rfl, _, rfl, q⟩
theorem pf_parts_to (h : sp_parts_to ds s Q E) : b_parts_to (endsOf Q) (envD ["book", "reading", "thing", "one"] ds) s := by
  obtain ⟨ws, rows, r, x, K, rfl, hW, hr, hr1, hwl, hx, q⟩ := h
  cases x with
  | frl _ => cases hx
  | ref _ => cases hx
  | exc _ _ _ => cases hx
  | lst xs =>
    obtain ⟨hl, hxs⟩ := sz_lst.mp hx
    refine ⟨_, rfl, _, rfl, _, rfl, _, rfl, Nat.zero_le _, _, eq_l0, _, rfl, ?_⟩
    refine ifB (fun he => ?_) fun he => ?_
    · have e : partsTo ws ((rows.length : Int) - 1) r (.lst xs) = false := by
        show ((!decide (xs = [])) && _) = false
        rw [he]; rfl
      rw [e] at q; exact q
    refine ⟨_, rfl, _, _, isW_lst, ?_⟩
    refine forD_run (fun rest env s' => ∃ (dn : List D) (o : Option D), xs = dn ++ rest ∧ (∀ d ∈ dn, isPart ws ((rows.length : Int) - 1) d = true) ∧ env = [some (.tup [.lst ws, .lst rows]), some (.str r), some (.lst xs), o] ∧ s' = s) ?_ ?_ ⟨[], none, rfl, (fun _ h => nomatch h), rfl, rfl⟩
    · rintro d rest env s' ⟨dn, o, hd, hp, rfl, rfl⟩ N hN
      have hdm : d ∈ xs := by rw [hd]; simp
      have hds : szB NN d = true := szB_mono (by decide) _ (hxs d hdm)
      refine ⟨trivial, ?_⟩
      refine ⟨_, rfl, _, rfl, ws, rows, d, rfl, hr, hr1, hds, _, rfl, ?_⟩
      have bad : isPart ws ((rows.length : Int) - 1) d = false → Q (.bl false) s' := fun hb => by
        have e : partsTo ws ((rows.length : Int) - 1) r (.lst xs) = false := by
          show ((!decide (xs = [])) && (xs.all (isPart ws ((rows.length : Int) - 1)) && _)) = false
          have : xs.all (isPart ws ((rows.length : Int) - 1)) = false := by
            rw [List.all_eq_false]
            exact ⟨d, hdm, by rw [hb]; exact Bool.false_ne_true⟩
          rw [this]; simp
        rw [e] at q; exact q
      have good : isPart ws ((rows.length : Int) - 1) d = true → N [some (.tup [.lst ws, .lst rows]), some (.str r), some (.lst xs), some d] s' := fun hb => by
        refine hN _ _ ⟨dn ++ [d], _, by rw [hd]; simp, fun y hy => ?_, rfl, rfl⟩
        rcases List.mem_append.mp hy with h | h
        · exact hp y h
        · rw [List.mem_singleton.mp h]; exact hb
      cases hraw : isRaw ((rows.length : Int) - 1) d with
      | true => exact good (by unfold isPart; rw [hraw]; rfl)
      | false =>
        refine ⟨_, rfl, _, rfl, hds, _, rfl, ?_⟩
        cases hwd : isWd d with
        | false => exact bad (by unfold isPart; rw [hraw, hwd]; rfl)
        | true =>
          obtain ⟨a, b, c, k, rfl⟩ := isWd_shape hwd
          obtain ⟨ok, _⟩ := word_in (a := a) (b := b) (c := c) (d := k) hW
          refine ⟨_, rfl, _, rfl, _, rfl, .inr ⟨ws, .inl rfl, ok, _, rfl, ?_⟩⟩
          cases hin : inAny ws (.tup [.str a, .str b, .int c, .int k]) with
          | true => exact good (by unfold isPart; rw [hraw, hwd, hin]; rfl)
          | false => exact bad (by unfold isPart; rw [hraw, hwd, hin]; rfl)
    · rintro env s' ⟨dn, o, hd, hp, rfl, rfl⟩
      rw [List.append_nil] at hd
      subst hd
      refine ⟨trivial, ?_⟩
      have hall : xs.all (isPart ws ((rows.length : Int) - 1)) = true := List.all_eq_true.mpr hp
      dsimp only [dRet, dBin, endsOf]
      refine join_rd (xs := xs) (fun P p => ⟨_, rfl, p⟩) (Nat.lt_succ_self 3) (by omega) (fun y hy => ?_) ⟨_, rfl, _, eq_ss, ?_⟩
      · have hb := hp y hy
        unfold isPart at hb
        cases hraw : isRaw ((rows.length : Int) - 1) y with
        | true =>
          unfold isRaw at hraw
          split at hraw
          · rename_i a b c k
            refine ⟨a, _, _, _, rfl, ?_⟩
            simp only [Bool.and_eq_true, decide_eq_true_eq] at hraw
            omega
          · cases hraw
        | false =>
          rw [hraw, Bool.false_or, Bool.and_eq_true] at hb
          obtain ⟨a, b, c, k, rfl⟩ := isWd_shape hb.1
          refine ⟨a, _, _, _, rfl, ?_⟩
          have h1 : (sgnF az 40 (.str a) && (sgnF AZ 12 (.str b) && (isCnt (.int c) && isCnt (.int k)))) = true := hb.1
          rw [Bool.and_eq_true] at h1
          have h2 : (sgnIn az a && (decide (1 ≤ (a.length : Int)) && decide ((a.length : Int) ≤ 40))) = true := h1.1
          simp only [Bool.and_eq_true, decide_eq_true_eq] at h2
          omega
      · have e : partsTo ws ((rows.length : Int) - 1) r (.lst xs) = (strL (xs.map rdOf).flatten == r) := by
          show ((!decide (xs = [])) && (xs.all (isPart ws ((rows.length : Int) - 1)) && decide ((xs.map rdOf).flatten = r.cps.toList))) = _
          rw [hall, he, Bool.not_false, Bool.true_and, Bool.true_and, Bool.eq_iff_iff, decide_eq_true_eq, beq_iff_eq]
          constructor
          · intro h; rw [h]; exact (str_eq r).symm
          · intro h; rw [← h, strL_cps]
        rw [e] at q
        exact q
  | _ => exact ⟨_, rfl, _, rfl, _, rfl, q⟩
end
end Fb
set_option Elab.async false
set_option linter.all false
set_option autoImplicit false
set_option maxRecDepth 100000
set_option maxHeartbeats 4000000
namespace Fb
open PySem PySem.Spec PyProof.Rows L2 Dl Bk
open Fa (ifD ifB ifT ifF two three powOk10 fapp strL strL_length strL_cps txt_join_signs txt_join_cps strL_app str_eq)
theorem tameL_iff : ∀ {xs : List D}, tameL xs = true ↔ ∀ x ∈ xs, tame x = true
  | [] => ⟨fun _ _ h => (nomatch h), fun _ => rfl⟩
  | x :: xs => by
    show (tame x && tameL xs) = true ↔ _
    rw [Bool.and_eq_true, tameL_iff]
    exact ⟨fun h y hy => (List.mem_cons.mp hy).elim (fun e => e ▸ h.1) (h.2 y), fun h => ⟨h x List.mem_cons_self, fun y hy => h y (List.mem_cons_of_mem _ hy)⟩⟩
theorem wtL_le {n : Nat} : ∀ {xs : List D}, (∀ x ∈ xs, wt x ≤ n) → wtL xs ≤ (n + 1) * xs.length
  | [], _ => Nat.zero_le _
  | x :: xs, h => by
    have h1 := h x List.mem_cons_self
    have h2 := wtL_le (xs := xs) fun y hy => h y (List.mem_cons_of_mem _ hy)
    show wt x + 1 + wtL xs ≤ (n + 1) * (xs.length + 1)
    rw [Nat.mul_add, Nat.mul_one]; omega
theorem deepL_le {n : Nat} : ∀ {xs : List D}, (∀ x ∈ xs, deep x ≤ n) → deepL xs ≤ n
  | [], _ => Nat.zero_le _
  | x :: xs, h => by
    have h1 := h x List.mem_cons_self
    have h2 := deepL_le (xs := xs) fun y hy => h y (List.mem_cons_of_mem _ hy)
    show max (deep x) (deepL xs) ≤ n
    omega
theorem tame_sgn {r z : Str} (hr : r.cps.toList.all (fun c => decide (c < 16 ^ 8)) = true) (h : sgnIn r z = true) : tame (.str z) = true := by
  show z.cps.toList.all (fun c => decide (c < 16 ^ 8)) = true
  unfold sgnIn at h
  rw [List.all_eq_true] at *
  exact fun c hc => hr c (of_decide_eq_true (h c hc))
/-- small things: shown in a few signs -/
structure Small (n d : Nat) (x : D) : Prop where
  t : tame x = true
  w : wt x ≤ n
  d : deep x ≤ d
theorem small_tup {n d m : Nat} {xs : List D} (h : ∀ x ∈ xs, Small n d x) (hl : xs.length ≤ m) : Small ((n + 1) * m) (d + 1) (.tup xs) :=
  ⟨tameL_iff.mpr fun x hx => (h x hx).t, Nat.le_trans (wtL_le fun x hx => (h x hx).w) (Nat.mul_le_mul (Nat.le_refl _) hl), Nat.succ_le_succ (deepL_le fun x hx => (h x hx).d)⟩
theorem Small.up {n d m e : Nat} {x : D} (h : Small n d x) (h1 : n ≤ m) (h2 : d ≤ e) : Small m e x := ⟨h.t, Nat.le_trans h.w h1, Nat.le_trans h.d h2⟩
theorem small_int {i : Int} (h : i.natAbs < 10 ^ 40) : Small 0 0 (.int i) := ⟨decide_eq_true h, Nat.le_refl _, Nat.le_refl _⟩
theorem small_az {z : Str} {n : Nat} (h : sgnIn az z = true) (hl : z.length ≤ n) : Small n 0 (.str z) := ⟨tame_sgn (by decide +kernel) h, hl, Nat.le_refl _⟩
theorem small_AZ {z : Str} {n : Nat} (h : sgnIn AZ z = true) (hl : z.length ≤ n) : Small n 0 (.str z) := ⟨tame_sgn (by decide +kernel) h, hl, Nat.le_refl _⟩
theorem IsW.small {K : Int} {x : D} (h : IsW K x) (hK : K ≤ 1000) : Small 164 1 x := by
  obtain ⟨r, w, c, k, rfl, ok⟩ := h
  have := ok.c1; have := ok.c2; have := ok.k1; have := ok.k2
  refine (small_tup (xs := [.str r, .str w, .int c, .int k]) (n := 40) (d := 0) (m := 4) (fun y hy => ?_) (Nat.le_refl 4)).up (by decide) (by decide)
  rcases (by simpa using hy : y = D.str r ∨ y = .str w ∨ y = .int c ∨ y = .int k) with rfl | rfl | rfl | rfl
  · exact small_az ok.r1 ok.r3
  · exact small_AZ ok.w1 (Nat.le_trans ok.w3 (by decide))
  · exact (small_int (by omega)).up (Nat.zero_le _) (Nat.le_refl _)
  · exact (small_int (by omega)).up (Nat.zero_le _) (Nat.le_refl _)
theorem raw_small {c : Nat} {edge : Int} (h : c ∈ (az : Str).cps.toList) (he : edge.natAbs < 10 ^ 40) : Small 164 1 (rawD c edge) := by
  have e : sgnIn az ⟨#[c]⟩ = true := by
    unfold sgnIn
    rw [List.all_eq_true]
    intro d hd
    have : d = c := by simpa using hd
    rw [this]; exact decide_eq_true h
  refine (small_tup (xs := [.str ⟨#[c]⟩, .str ⟨#[c]⟩, .int 1000, .int edge]) (n := 40) (d := 0) (m := 4) (fun y hy => ?_) (Nat.le_refl 4)).up (by decide) (by decide)
  rcases (by simpa using hy : y = D.str ⟨#[c]⟩ ∨ y = .int 1000 ∨ y = .int edge) with rfl | rfl | rfl
  · exact small_az e (by show 1 ≤ 40; decide)
  · exact (small_int (by decide)).up (Nat.zero_le _) (Nat.le_refl _)
  · exact (small_int he).up (Nat.zero_le _) (Nat.le_refl _)
theorem Part.small {K : Int} {ws : List D} {edge : Int} {x : D} (h : Part ws edge x) (hW : ∀ w ∈ ws, IsW K w) (hK : K ≤ 1000) (he : edge.natAbs < 10 ^ 40) : Small 164 1 x := by
  rcases h with h | ⟨c, hc, rfl⟩
  · exact IsW.small (hW x h) hK
  · exact raw_small hc he
def jn (rows : List D) (i j : Nat) : Int := match rows[i]? with
  | some (.lst js) => (match js[j]? with
    | some (.int v) => v
    | _ => 0)
  | _ => 0
def kd (x : D) : Nat := (kindOf x).toNat
def cs : D → Int
  | .tup [_, _, .int c, _] => c
  | _ => 0
theorem row_at {rows : List D} (h : ∀ r ∈ rows, IsRow rows.length r) {i : Nat} (hi : i < rows.length) :
    ∃ L : D, (∀ s, idxF s (.lst rows) (.int (i : Nat)) = some L) ∧ (∀ s (j : Nat), j < rows.length → idxF s L (.int (j : Nat)) = some (.int (jn rows i j))) ∧ ∀ s, idxF s L (.int (-1)) = some (.int (jn rows i (rows.length - 1))) := by
  have hg : rows[i]? = some rows[i] := List.getElem?_eq_getElem hi
  obtain ⟨js, e, hl, _⟩ := h rows[i] (List.getElem_mem hi)
  have hj : ∀ j, j < rows.length → js[j]? = some (jn rows i j) := fun j hj => by
    have h2 : j < js.length := by omega
    rw [List.getElem?_eq_getElem h2]
    unfold jn
    rw [hg, e]
    simp [h2]
  refine ⟨.lst (js.map .int), fun s => ?_, fun s j hj' => ?_, fun s => ?_⟩
  · rw [idx_l, atI_in (by omega) (by omega), Int.toNat_natCast, hg, e]
  · rw [idx_l, atI_in (by omega) (by rw [List.length_map]; omega), Int.toNat_natCast, List.getElem?_map, hj j hj']; rfl
  · have hne : js.map D.int ≠ [] := fun z => by
      have := congrArg List.length z
      simp at this
      rw [this] at hl; simp at hl; omega
    rw [idx_l, atI_last hne, List.getLast_eq_getElem]
    have := hj (rows.length - 1) (by omega)
    rw [List.getElem?_eq_getElem (by omega)] at this
    simp only [List.getElem_map, List.length_map]
    simp only [hl]
    rw [Option.some.inj this]
theorem part_shape {ws rows : List D} {x : D} (h : Part ws ((rows.length : Int) - 1) x) (hW : ∀ w ∈ ws, IsW ((rows.length : Int) - 1) w) (hr : 1 ≤ rows.length) :
    ∃ (r w : Str) (c : Int) (k : Nat), x = .tup [.str r, .str w, .int c, .int (k : Nat)] ∧ k < rows.length ∧ 1 ≤ r.length ∧ r.length ≤ 40 := by
  rcases h with h | ⟨c, hc, rfl⟩
  · obtain ⟨r, w, c, k, rfl, ok⟩ := hW x h
    have h1 := ok.k1; have h2 := ok.k2
    exact ⟨r, w, c, k.toNat, by rw [Int.toNat_of_nonneg h1], by omega, ok.r2, ok.r3⟩
  · exact ⟨⟨#[c]⟩, ⟨#[c]⟩, 1000, rows.length - 1, by unfold rawD; rw [show ((rows.length : Int) - 1) = ((rows.length - 1 : Nat) : Int) by omega], by omega, Nat.le_refl 1, by show 1 ≤ 40; decide⟩
/-- what a split costs behind a kind -/
def costF (rows : List D) : Nat → List D → Int
  | k, [] => jn rows k (rows.length - 1)
  | k, x :: xs => jn rows k (kd x) + cs x + costF rows (kd x) xs
def prS (rows : List D) (ks : List Nat) : Int := ((List.range (ks.length - 1)).map fun i => jn rows (ks.getD i 0) (ks.getD (i + 1) 0)).sum
theorem prS_cons (rows : List D) (a b : Nat) (l : List Nat) : prS rows (a :: b :: l) = jn rows a b + prS rows (b :: l) := by
  unfold prS
  show ((List.range (l.length + 1 + 1 - 1)).map _).sum = _
  rw [show l.length + 1 + 1 - 1 = l.length + 1 by omega, List.range_succ_eq_map, List.map_cons, List.sum_cons, List.map_map]
  rfl
theorem prS_cost (rows : List D) : ∀ (xs : List D) (k : Nat), prS rows (k :: (xs.map kd ++ [rows.length - 1])) + (xs.map cs).sum = costF rows k xs
  | [], k => by
    show prS rows [k, rows.length - 1] + 0 = jn rows k (rows.length - 1)
    rw [prS_cons]
    show _ + 0 + 0 = _
    omega
  | x :: xs, k => by
    have ih := prS_cost rows xs (kd x)
    show prS rows (k :: kd x :: (xs.map kd ++ [rows.length - 1])) + (cs x + (xs.map cs).sum) = jn rows k (kd x) + cs x + costF rows (kd x) xs
    rw [prS_cons]
    omega
def sp_text_made : SpD := fun ds s Q _ => ∃ xs, ds = [.lst xs] ∧ xs.length ≤ 1000 ∧ (∀ x ∈ xs, ∃ (r : Str) (x1 x2 x3 : D), x = .tup [.str r, x1, x2, x3] ∧ r.length ≤ 1000) ∧ Q (.str (strL (xs.map rdOf).flatten)) s
theorem mono_text_made : MonoSp sp_text_made := fun _ _ _ _ _ _ f _ ⟨xs, h1, h2, h3, h⟩ => ⟨xs, h1, h2, h3, f _ _ h⟩
theorem len_text_made : ∀ ds s Q E, sp_text_made ds s Q E → ds.length = ["thing"].length := fun _ _ _ _ ⟨_, h, _⟩ => by rw [h]; rfl
def sp_kind_behind : SpD := fun ds s Q _ => ∃ (x : D) (rows : List D) (b : D) (k : Nat), ds = [.tup [x, .lst rows], b] ∧ k < rows.length ∧ ((b = .non ∧ k = rows.length - 1) ∨ b = .int (k : Nat)) ∧ k ≤ 1000 ∧ Q (.int (k : Nat)) s
theorem mono_kind_behind : MonoSp sp_kind_behind := fun _ _ _ _ _ _ f _ ⟨x, rows, b, k, h1, h2, h3, h4, h⟩ => ⟨x, rows, b, k, h1, h2, h3, h4, f _ _ h⟩
theorem len_kind_behind : ∀ ds s Q E, sp_kind_behind ds s Q E → ds.length = ["book", "behind"].length := fun _ _ _ _ ⟨_, _, _, _, h, _⟩ => by rw [h]; rfl
def sp_cost_of : SpD := fun ds s Q _ => ∃ (m : Nat) (ws rows xs : List D) (b : D) (k : Nat), ds = [.tup [.lst ws, .lst rows], .lst xs, b] ∧ BookOk m ws rows ∧ m ≤ 1000 ∧ xs ≠ [] ∧ xs.length ≤ 100 ∧ (∀ x ∈ xs, Part ws ((rows.length : Int) - 1) x) ∧ (xs.map rdOf).flatten.length ≤ 40 ∧
  k < rows.length ∧ ((b = .non ∧ k = rows.length - 1) ∨ b = .int (k : Nat)) ∧ Q (.int (costF rows k xs)) s
theorem mono_cost_of : MonoSp sp_cost_of := fun _ _ _ _ _ _ f _ ⟨m, ws, rows, xs, b, k, h1, h2, h3, h4, h5, h6, h7, h8, h9, h⟩ => ⟨m, ws, rows, xs, b, k, h1, h2, h3, h4, h5, h6, h7, h8, h9, f _ _ h⟩
theorem len_cost_of : ∀ ds s Q E, sp_cost_of ds s Q E → ds.length = ["book", "split", "behind"].length := fun _ _ _ _ ⟨_, _, _, _, _, _, h, _⟩ => by rw [h]; rfl
def b_text_made : SD := (dSeq (dIfS (dNot (dTest (dUn (isiF "list") (dVar 0)))) (dRet (dC (.str ""))) dNext)
  (dSeq (dIfS (dNot (dTest (dCB allF (dCons (dLc (iW (dVar 0)) (CT.g (.one 1)) dYes (dAndV (dUn (isiF "tuple") (dVar 1)) (dAndV (dBin (oF eqF) (dCB lenF (dCons (dVar 1) dNil)) (dC (.int 4))) (dUn (isiF "str") (dBin (oF idxF) (dVar 1) (dC (.int 0)))))) [1]) dNil)))) (dRet (dC (.str ""))) dNext)
  (dRet (dJoin (dC (.str "")) (dLc (iW (dVar 0)) (CT.g (.one 1)) dYes (dBin (oF idxF) (dVar 1) (dC (.int 0))) [1])))))
def b_kind_behind : SD := (dSeq (dAsg (dBin (oF subF) (dCB lenF (dCons (dBin (oF idxF) (dVar 0) (dC (.int 1))) dNil)) (dC (.int 1))) (gN 2))
  (dSeq (dIfS (dTest (dBin (oF isF) (dVar 1) (dC .non))) (dRet (dVar 2)) dNext)
  (dSeq (dIfS (dOr (dNot (dTest (dCall sp_is_count [] (dCons (dVar 1) dNil)))) (dTest (dBin (oF gtBF) (dVar 1) (dVar 2)))) dNever dNext)
  (dRet (dVar 1)))))
def b_cost_of : SD := (dSeq (dIfS (dNot (dTest (dCall sp_is_book [] (dCons (dVar 0) dNil)))) dNever dNext)
  (dSeq (dAsg (dCall sp_text_made [] (dCons (dVar 1) dNil)) (gN 3))
  (dSeq (dIfS (dOr (dTest (dBin (oF gtBF) (dCB lenF (dCons (dVar 3) dNil)) (dC (.int 40)))) (dNot (dTest (dCall sp_parts_to [] (dCons (dVar 0) (dCons (dVar 3) (dCons (dVar 1) dNil))))))) dNever dNext)
  (dSeq (dAsg (dCall sp_kind_behind [] (dCons (dVar 0) (dCons (dVar 2) dNil))) (gN 4))
  (dSeq (dAsg (dC (.int 0)) (gN 5))
  (dSeq (dFor (iW (dVar 1)) (gTs [3, 6, 7, 8]) (dSeq (dAug 5 (oF iaddF) (dBin (oF addF) (dBin (oF idxF) (dBin (oF idxF) (dBin (oF idxF) (dVar 0) (dC (.int 1))) (dVar 4)) (dVar 8)) (dVar 7)))
  (dAsg (dVar 8) (gN 4))))
  (dRet (dBin (oF addF) (dVar 5) (dBin (oF idxF) (dBin (oF idxF) (dBin (oF idxF) (dVar 0) (dC (.int 1))) (dVar 4)) (dUn negF (dC (.int 1))))))))))))
theorem parts_ok {K : Int} {ws xs : List D} {edge : Int} {z : List Nat} (hW : ∀ w ∈ ws, IsW K w) (hP : ∀ x ∈ xs, Part ws edge x) (hne : xs ≠ []) (hf : (xs.map rdOf).flatten = z) : partsTo ws edge (strL z) (.lst xs) = true := by
  show ((!decide (xs = [])) && (xs.all (isPart ws edge) && decide ((xs.map rdOf).flatten = (strL z).cps.toList))) = true
  rw [decide_eq_false hne, strL_cps, decide_eq_true hf, List.all_eq_true.mpr fun x hx => (hP x hx).is hW]
  rfl
section
variable (ds : List D) (s : Sto) (Q : D → Sto → Prop) (E : XD)
theorem pf_text_made (h : sp_text_made ds s Q E) : b_text_made (endsOf Q) (envD ["thing", "one"] ds) s := by
  obtain ⟨xs, rfl, hl, hx, q⟩ := h
  refine ⟨_, rfl, _, rfl, _, rfl, ?_⟩
  refine all_tells (fun _ => true) rfl (Nat.le_trans hl (by decide)) (fun d hd P p => ?_) ⟨_, rfl, ?_⟩
  · obtain ⟨r, x1, x2, x3, rfl, _⟩ := hx d hd
    exact ⟨_, rfl, _, rfl, _, rfl, _, rfl, _, rfl, _, rfl, _, rfl, _, rfl, _, rfl, _, rfl, p⟩
  · have : (xs.all fun _ => true) = true := List.all_eq_true.mpr fun _ _ => rfl
    show if (!(xs.all fun _ => true)) = true then _ else _
    rw [this]
    dsimp only [dNext, dRet, endsOf]
    exact join_rd (xs := xs) (fun P p => ⟨_, rfl, p⟩) (Nat.lt_succ_self 1) (by omega) hx q
theorem pf_kind_behind (h : sp_kind_behind ds s Q E) : b_kind_behind (endsOf Q) (envD ["book", "behind", "edge"] ds) s := by
  obtain ⟨x, rows, b, k, rfl, hk, hb, hk2, q⟩ := h
  have he : ((rows.length : Int) - 1) = ((rows.length - 1 : Nat) : Int) := by omega
  rcases hb with ⟨rfl, rfl⟩ | rfl
  · refine ⟨_, rfl, _, rfl, _, rfl, _, rfl, _, rfl, _, rfl, _, rfl, ?_⟩
    refine ⟨_, rfl, ?_⟩
    rw [he]; exact q
  · refine ⟨_, rfl, _, rfl, _, rfl, _, rfl, _, rfl, _, rfl, _, rfl, ?_⟩
    refine ⟨_, rfl, _, rfl, sz_int.mpr (by have : 1000 ≤ big := by decide
                                           omega), _, rfl, ?_⟩
    show if (!decide (0 ≤ ((k : Nat) : Int))) = true then _ else _
    rw [decide_eq_true (by omega)]
    refine ⟨_, rfl, _, rfl, _, rfl, _, rfl, ifD (fun h => ?_) fun _ => ⟨_, rfl, q⟩⟩
    exact (by omega : False).elim
theorem pf_cost_of (h : sp_cost_of ds s Q E) : b_cost_of (endsOf Q) (envD ["book", "split", "behind", "reading", "kind", "found", "writing", "cost", "own"] ds) s := by
  obtain ⟨m, ws, rows, xs, b, k, rfl, hB, hm, hne, hxl, hP, hf, hk, hb, q⟩ := h
  have hwl := hB.wl
  have hrl := hB.rl
  have hr1 : 1 ≤ rows.length := by omega
  have hsh : ∀ x ∈ xs, ∃ (r : Str) (x1 x2 x3 : D), x = .tup [.str r, x1, x2, x3] ∧ r.length ≤ 1000 := fun x hx => by
    obtain ⟨r, w, c, k, rfl, _, _, h⟩ := part_shape (hP x hx) hB.ww hr1
    exact ⟨r, _, _, _, rfl, by omega⟩
  refine ⟨_, rfl, _, rfl, szB_mono (by decide) _ (hB.sz hm), _, rfl, ?_⟩
  rw [hB.isBk]
  refine ⟨_, rfl, xs, rfl, by omega, hsh, ?_⟩
  refine ⟨_, rfl, _, rfl, _, rfl, _, rfl, ?_⟩
  rw [strL_length]
  refine ifD (fun h => (by omega : False).elim) fun _ => ?_
  have hsz : szB 1000 (.lst xs) = true := sz_lst.mpr ⟨by omega, fun x hx => by
    rcases hP x hx with h | ⟨c, hc, rfl⟩
    · exact szB_mono (by decide) _ ((hB.ww x h).sz (by omega))
    · refine sz_tup.mpr ⟨by show 4 ≤ 1000; decide, fun y hy => ?_⟩
      have hbig : 1000 ≤ big := by decide
      rcases (by simpa using hy : y = D.str ⟨#[c]⟩ ∨ y = .int 1000 ∨ y = .int ((rows.length : Int) - 1)) with rfl | rfl | rfl
      · rw [sz_str]; show 1 ≤ 1000; decide
      · rw [sz_int]; omega
      · rw [sz_int]; omega⟩
  refine ⟨_, rfl, _, rfl, _, rfl, ws, rows, _, _, _, rfl, hB.ww, by omega, hr1, by omega, hsz, _, rfl, ?_⟩
  rw [parts_ok hB.ww hP hne rfl]
  refine ⟨_, rfl, _, rfl, _, rows, b, k, rfl, hk, hb, by omega, ?_⟩
  refine ⟨_, rfl, _, _, isW_lst, ?_⟩
  refine forD_run (fun rest env s' => ∃ (f : Int) (j : Nat) (a b1 c d : Option D), (∀ x ∈ rest, Part ws ((rows.length : Int) - 1) x) ∧ j < rows.length ∧ env = [some (.tup [.lst ws, .lst rows]), some (.lst xs), some b, a, some (.int (j : Nat)), some (.int f), b1, c, d] ∧ f + costF rows j rest = costF rows k xs ∧ s' = s) ?_ ?_ ⟨0, k, _, none, none, none, hP, hk, rfl, by omega, rfl⟩
  · rintro d rest env s' ⟨f, j, a, b1, c, d', hR, hj, rfl, hsum, rfl⟩ N hN
    obtain ⟨r, w, cc, kk, rfl, hkk, _, _⟩ := part_shape (hR d List.mem_cons_self) hB.ww hr1
    obtain ⟨L, L1, L2, L3⟩ := row_at hB.rr hj
    refine ⟨trivial, _, rfl, rfl, ?_⟩
    refine ⟨_, rfl, _, rfl, _, rfl, _, rfl, _, L1 _, _, rfl, _, L2 _ kk hkk, _, rfl, _, rfl, _, rfl, ?_⟩
    refine ⟨_, rfl, ?_⟩
    refine hN _ _ ⟨_, kk, _, _, _, _, fun x hx => hR x (List.mem_cons_of_mem _ hx), hkk, rfl, ?_, rfl⟩
    have e : costF rows j (.tup [.str r, .str w, .int cc, .int (kk : Nat)] :: rest) = jn rows j kk + cc + costF rows kk rest := rfl
    rw [e] at hsum
    omega
  · rintro env s' ⟨f, j, a, b1, c, d', hR, hj, rfl, hsum, rfl⟩
    obtain ⟨L, L1, L2, L3⟩ := row_at hB.rr hj
    refine ⟨trivial, _, rfl, _, rfl, _, rfl, _, rfl, _, L1 _, _, rfl, _, L3 _, _, rfl, ?_⟩
    have e : costF rows j [] = jn rows j (rows.length - 1) := rfl
    rw [e] at hsum
    rw [hsum]
    exact q
end
end Fb
set_option Elab.async false
set_option linter.all false
set_option autoImplicit false
set_option maxRecDepth 100000
set_option maxHeartbeats 4000000
namespace Wy
/-- f 0 + .. + f (n - 1) -/
def S (f : Nat → Int) : Nat → Int
  | 0 => 0
  | n + 1 => S f n + f n
/-- ways over d places from i on, by the first step (f: fuel) -/
def P (m : Nat → Nat → Int) : Nat → Nat → Nat → Int
  | _, _, 0 => 1
  | 0, _, _ + 1 => 0
  | f + 1, i, d + 1 => S (fun k => m i (i + k + 1) * P m f (i + k + 1) (d - k)) (d + 1)
end Wy
set_option Elab.async false
set_option linter.all false
set_option autoImplicit false
set_option maxRecDepth 100000
set_option maxHeartbeats 4000000
set_option Elab.async false
set_option linter.all false
set_option autoImplicit false
set_option maxRecDepth 100000
set_option maxHeartbeats 4000000
namespace Dl
open PySem PySem.Spec PyProof.Rows L2
section
variable {κ : Type} [DecidableEq κ] {K : PySem.W.Frag} {F F' : Hp} {A A' : List Addr}
structure RelG (K : PySem.W.Frag) (F : Hp) (A : List Addr) (ds : List (κ × D)) (es : List (κ × V)) : Prop where
  ks : es.map (·.1) = ds.map (·.1)
  vs : DatL K F A (ds.map (·.2)) (es.map (·.2))
theorem RelG.mono {ds : List (κ × D)} {es : List (κ × V)} (h : RelG K F A ds es) (e : Same F F') (p : ∀ (l : Nat) (a : Addr), A[l]? = some a → A'[l]? = some a) : RelG K F' A' ds es := ⟨h.ks, h.vs.mono e p⟩
theorem RelG.len {ds : List (κ × D)} {es : List (κ × V)} (h : RelG K F A ds es) : es.length = ds.length := by
  have := congrArg List.length h.ks
  simpa using this
theorem getP_cons {α : Type} {p : κ × α} {es : List (κ × α)} {k : κ} : getP (p :: es) k = if p.1 = k then some p.2 else getP es k := by
  unfold getP
  by_cases h : p.1 = k
  · rw [List.find?_cons_of_pos (by simpa using h), if_pos h]; rfl
  · rw [List.find?_cons_of_neg (by simpa using h), if_neg h]
theorem RelG.get (k : κ) : ∀ {ds : List (κ × D)} {es : List (κ × V)}, RelG K F A ds es → (getP ds k = none → valV es k = none) ∧ ∀ d, getP ds k = some d → ∃ v, valV es k = some v ∧ Dat K F A d v
  | [], [], _ => ⟨fun _ => rfl, fun d h => by cases h⟩
  | [], _ :: _, h => by cases h.ks
  | _ :: _, [], h => by cases h.ks
  | p :: ds, q :: es, h => by
    have h1 := h.ks
    rw [List.map_cons, List.map_cons] at h1
    injection h1 with e1 e2
    have h2 := h.vs
    rw [List.map_cons, List.map_cons] at h2
    cases h2 with
    | cons d1 d2 =>
      obtain ⟨g1, g2⟩ := RelG.get k (ds := ds) (es := es) ⟨e2, d2⟩
      rw [getP_cons]
      by_cases e : p.1 = k
      · rw [if_pos e, valV_pos (e1.trans e)]
        refine ⟨fun z => (nomatch z), fun d z => ?_⟩
        cases z
        exact ⟨_, rfl, d1⟩
      · rw [if_neg e, valV_neg (fun z => e (e1.symm.trans z))]
        exact ⟨g1, g2⟩
theorem put_mapG {x : D} {v : V} (hx : Dat K F A x v) (k : κ) : ∀ {ds : List (κ × D)} {es : List (κ × V)}, es.map (·.1) = ds.map (·.1) → DatL K F A (ds.map (·.2)) (es.map (·.2)) →
    DatL K F A ((ds.map fun p => if p.1 = k then (p.1, x) else p).map (·.2)) ((es.map fun p => if p.1 = k then (p.1, v) else p).map (·.2)) ∧ (es.map fun p => if p.1 = k then (p.1, v) else p).map (·.1) = (ds.map fun p => if p.1 = k then (p.1, x) else p).map (·.1)
  | [], [], _, _ => ⟨.nil, rfl⟩
  | [], _ :: _, h, _ => by cases h
  | _ :: _, [], h, _ => by cases h
  | p :: ds, q :: es, h, d => by
    rw [List.map_cons, List.map_cons] at h
    injection h with h1 h2
    cases d with
    | cons d1 d2 =>
      obtain ⟨g1, g2⟩ := put_mapG hx k h2 d2
      by_cases e : p.1 = k
      · have e' : q.1 = k := h1.trans e
        simp only [List.map_cons, if_pos e, if_pos e'] at g1 g2 ⊢
        exact ⟨.cons hx g1, by rw [g2, e, e']⟩
      · have e' : ¬ q.1 = k := fun z => e (h1.symm.trans z)
        simp only [List.map_cons, if_neg e, if_neg e'] at g1 g2 ⊢
        exact ⟨.cons d1 g1, by rw [g2, h1]⟩
theorem RelG.put {ds : List (κ × D)} {es : List (κ × V)} {x : D} {v : V} (h : RelG K F A ds es) (k : κ) (hx : Dat K F A x v) : RelG K F A (putP ds k x) (putK es k v) := by
  have e := any_fst k h.ks
  unfold putP putK
  rw [e]
  split
  · obtain ⟨g1, g2⟩ := put_mapG hx k h.ks h.vs
    exact ⟨g2, g1⟩
  · refine ⟨by rw [List.map_append, List.map_append, h.ks]; rfl, ?_⟩
    rw [List.map_append, List.map_append]
    exact h.vs.append (.cons hx .nil)
theorem zip_fs {α : Type} : ∀ (es : List (κ × α)), (es.map (·.1)).zip (es.map (·.2)) = es
  | [] => rfl
  | p :: es => by rw [List.map_cons, List.map_cons, List.zip_cons_cons, zip_fs es]
theorem relG_zip {ks : List κ} {xs : List D} {kvs : List (κ × V)} (h1 : kvs.map (·.1) = ks) (h2 : DatL K F A xs (kvs.map (·.2))) : RelG K F A (ks.zip xs) kvs := by
  have hl : ks.length = xs.length := by rw [← h2.length, ← h1, List.length_map, List.length_map]
  refine ⟨?_, ?_⟩
  · rw [h1, List.map_fst_zip (Nat.le_of_eq hl)]
  · rw [List.map_snd_zip (Nat.le_of_eq hl.symm)]; exact h2
end
inductive DV where
  | k (es : List (Key × D)) | t (es : List (List Key × D))
def DV.len : DV → Nat
  | .k es => es.length
  | .t es => es.length
def DV.vals : DV → List D
  | .k es => es.map (·.2)
  | .t es => es.map (·.2)
def DV.mo : DV → MO
  | .k es => .dk (es.map (·.1)) (es.map (·.2))
  | .t es => .dt (es.map (·.1)) (es.map (·.2))
/-- locked -/
def DV.lmo : DV → MO
  | .k es => .fdk (es.map (·.1)) (es.map (·.2))
  | .t es => .fdt (es.map (·.1)) (es.map (·.2))
def DV.d : DV → D
  | .k es => .dk (es.map (·.1)) (es.map (·.2))
  | .t es => .dt (es.map (·.1)) (es.map (·.2))
def DV.get : DV → D → Option (Option D)
  | .k es, y => (keyD1 y).map (getP es)
  | .t es, .tup ys => (keysD ys).map (getP es)
  | .t _, _ => none
def DV.put : DV → D → D → Option DV
  | .k es, y, v => (keyD1 y).map fun k => .k (putP es k v)
  | .t es, .tup ys, v => (keysD ys).map fun k => .t (putP es k v)
  | .t _, _, _ => none
def dictM (s : Sto) : D → Option DV
  | .ref l => match s[l]? with
    | some (some (.dk ks xs)) => some (.k (ks.zip xs))
    | some (some (.dt ks xs)) => some (.t (ks.zip xs))
    | _ => none
  | _ => none
def dictD (s : Sto) : D → Option DV
  | .dk ks xs => some (.k (ks.zip xs))
  | .dt ks xs => some (.t (ks.zip xs))
  | .ref l => match s[l]? with
    | some (some (.fdk ks xs)) => some (.k (ks.zip xs))
    | some (some (.fdt ks xs)) => some (.t (ks.zip xs))
    | some (some (.dk ks xs)) => some (.k (ks.zip xs))
    | some (some (.dt ks xs)) => some (.t (ks.zip xs))
    | _ => none
  | _ => none
theorem dictM_mo {s : Sto} {l : Nat} {dv : DV} (h : s[l]? = some (some dv.mo)) : dictM s (.ref l) = some dv := by
  unfold dictM
  cases dv with
  | k es => simp only [h, DV.mo, zip_fs]
  | t es => simp only [h, DV.mo, zip_fs]
theorem dictD_mo {s : Sto} {l : Nat} {dv : DV} (h : s[l]? = some (some dv.mo)) : dictD s (.ref l) = some dv := by
  unfold dictD
  cases dv with
  | k es => simp only [h, DV.mo, zip_fs]
  | t es => simp only [h, DV.mo, zip_fs]
theorem dictD_lmo {s : Sto} {l : Nat} {dv : DV} (h : s[l]? = some (some dv.lmo)) : dictD s (.ref l) = some dv := by
  unfold dictD
  cases dv with
  | k es => simp only [h, DV.lmo, zip_fs]
  | t es => simp only [h, DV.lmo, zip_fs]
/-- it stands at a -/
def DvAtM (K : PySem.W.Frag) (F : Hp) (A : List Addr) (H : Hp) (a : Addr) : DV → Prop
  | .k es => ∃ kvs, H a = some (.dK kvs) ∧ RelG K F A es kvs
  | .t es => ∃ kvs, H a = some (.dT kvs) ∧ RelG K F A es kvs
def DvAt (K : PySem.W.Frag) (F : Hp) (A : List Addr) (H : Hp) (a : Addr) : DV → Prop
  | .k es => ∃ kvs, Rd H a (.dK kvs) ∧ RelG K F A es kvs
  | .t es => ∃ kvs, Rd H a (.dT kvs) ∧ RelG K F A es kvs
theorem DvAtM.rd {K : PySem.W.Frag} {F : Hp} {A : List Addr} {H : Hp} {a : Addr} {dv : DV} (h : DvAtM K F A H a dv) : DvAt K F A H a dv := by
  cases dv with
  | k es => obtain ⟨kvs, h1, h2⟩ := h; exact ⟨kvs, .of h1, h2⟩
  | t es => obtain ⟨kvs, h1, h2⟩ := h; exact ⟨kvs, .of h1, h2⟩
section
variable {K : PySem.W.Frag} {B : List Addr} {H : Hp} {A : List Addr} {s : Sto}
theorem dictM_rd (R : RepS K B H A s) {x : D} {v : V} {dv : DV} (d : Dat K (Fz B H A s) A x v) (h : dictM s x = some dv) :
    ∃ l a mo, x = .ref l ∧ v = .ref a ∧ s[l]? = some (some mo) ∧ A[l]? = some a ∧ DvAtM K (Fz B H A s) A H a dv ∧ mo.live = true := by
  unfold dictM at h
  split at h
  · rename_i l
    cases d with
    | ref hA =>
      split at h
      · rename_i ks xs hs
        cases h
        obtain ⟨a, ha, kvs, h1, h2, h3⟩ := R.ob l _ hs
        rw [hA] at ha; cases ha
        exact ⟨l, _, _, rfl, rfl, hs, hA, ⟨kvs, h1, relG_zip h2 h3⟩, rfl⟩
      · rename_i ks xs hs
        cases h
        obtain ⟨a, ha, kvs, h1, h2, h3⟩ := R.ob l _ hs
        rw [hA] at ha; cases ha
        exact ⟨l, _, _, rfl, rfl, hs, hA, ⟨kvs, h1, relG_zip h2 h3⟩, rfl⟩
      · cases h
  · cases h
theorem dictD_rd (R : RepS K B H A s) {x : D} {v : V} {dv : DV} (d : Dat K (Fz B H A s) A x v) (h : dictD s x = some dv) : ∃ a, v = .ref a ∧ DvAt K (Fz B H A s) A H a dv := by
  unfold dictD at h
  split at h
  · cases h
    cases d with
    | dk h1 h2 => exact ⟨_, rfl, _, .of (fz_of h1).1, relG_zip rfl h2⟩
  · cases h
    cases d with
    | dt h1 h2 => exact ⟨_, rfl, _, .of (fz_of h1).1, relG_zip rfl h2⟩
  · rename_i l
    cases d with
    | ref hA =>
      split at h
      · rename_i ks xs hs
        cases h
        obtain ⟨a, ha, o, kvs, h1, h2, h3⟩ := R.ob l _ hs
        rw [hA] at ha; cases ha
        exact ⟨_, rfl, kvs, .inr ⟨o, h1⟩, relG_zip h2 h3⟩
      · rename_i ks xs hs
        cases h
        obtain ⟨a, ha, o, kvs, h1, h2, h3⟩ := R.ob l _ hs
        rw [hA] at ha; cases ha
        exact ⟨_, rfl, kvs, .inr ⟨o, h1⟩, relG_zip h2 h3⟩
      · rename_i ks xs hs
        cases h
        obtain ⟨a, ha, kvs, h1, h2, h3⟩ := R.ob l _ hs
        rw [hA] at ha; cases ha
        exact ⟨_, rfl, kvs, .of h1, relG_zip h2 h3⟩
      · rename_i ks xs hs
        cases h
        obtain ⟨a, ha, kvs, h1, h2, h3⟩ := R.ob l _ hs
        rw [hA] at ha; cases ha
        exact ⟨_, rfl, kvs, .of h1, relG_zip h2 h3⟩
      · cases h
  · cases h
theorem dget_rd (R : RepS K B H A s) {y : D} {u : V} {a : Addr} {dv : DV} {o : Option D} (q : DvAt K (Fz B H A s) A H a dv) (d : Dat K (Fz B H A s) A y u) (h : dv.get y = some o) :
    ∃ r, DGet H a u r ∧ (o = none → r = none) ∧ ∀ z, o = some z → ∃ w, r = some w ∧ Dat K (Fz B H A s) A z w := by
  cases dv with
  | k es =>
    obtain ⟨kvs, h1, h2⟩ := q
    have h : (keyD1 y).map (getP es) = some o := h
    cases hk : keyD1 y with
    | none => rw [hk] at h; cases h
    | some k =>
      rw [hk] at h
      cases h
      cases key_rd d hk
      exact ⟨_, .inl ⟨kvs, k, h1, rfl, rfl⟩, (h2.get k).1, (h2.get k).2⟩
  | t es =>
    obtain ⟨kvs, h1, h2⟩ := q
    by_cases hy : ∃ ys, y = .tup ys
    · obtain ⟨ys, rfl⟩ := hy
      have h : (keysD ys).map (getP es) = some o := h
      cases d with
      | tup t1 t2 =>
        cases hk : keysD ys with
        | none => rw [hk] at h; cases h
        | some k =>
          rw [hk] at h
          cases h
          have e2 := keys_rd t2 hk
          subst e2
          exact ⟨_, .inr ⟨kvs, k, _, h1, rfl, (fz_of (tp_key t1 t2 hk)).1, rfl⟩, (h2.get k).1, (h2.get k).2⟩
    · exfalso
      cases y <;> first | exact hy ⟨_, rfl⟩ | cases h
theorem dput_rd (R : RepS K B H A s) {l : Nat} {mo : MO} {y z : D} {u w : V} {a : Addr} {dv dv' : DV} (hl : s[l]? = some (some mo)) (hA : A[l]? = some a) (lv : mo.live = true) (q : DvAtM K (Fz B H A s) A H a dv) (d : Dat K (Fz B H A s) A y u) (dz : Dat K (Fz B H A s) A z w) (h : dv.put y z = some dv') (hn : dv.len < sizeLine) :
    ∃ H', DPut H a u w H' ∧ RepS K B H' A (s.set l (some dv'.mo)) ∧ Ext B H A s H' A (s.set l (some dv'.mo)) := by
  cases dv with
  | k es =>
    obtain ⟨kvs, h1, h2⟩ := q
    have h : (keyD1 y).map (fun k => DV.k (putP es k z)) = some dv' := h
    cases hk : keyD1 y with
    | none => rw [hk] at h; cases h
    | some k =>
      rw [hk] at h
      cases h
      cases key_rd d hk
      have rp := h2.put k dz
      obtain ⟨r, e⟩ := R.write (o := .dK (putK kvs k w)) (mo' := DV.mo (.k (putP es k z))) hl hA ⟨_, upd_same, rp.ks, rp.vs⟩ lv
      exact ⟨_, .k h1 (by rw [h2.len]; exact hn), r, e⟩
  | t es =>
    obtain ⟨kvs, h1, h2⟩ := q
    by_cases hy : ∃ ys, y = .tup ys
    · obtain ⟨ys, rfl⟩ := hy
      have h : (keysD ys).map (fun k => DV.t (putP es k z)) = some dv' := h
      cases d with
      | tup t1 t2 =>
        cases hk : keysD ys with
        | none => rw [hk] at h; cases h
        | some k =>
          rw [hk] at h
          cases h
          have e2 := keys_rd t2 hk
          subst e2
          have rp := h2.put k dz
          obtain ⟨r, e⟩ := R.write (o := .dT (putK kvs k w)) (mo' := DV.mo (.t (putP es k z))) hl hA ⟨_, upd_same, rp.ks, rp.vs⟩ lv
          exact ⟨_, .t h1 (fz_of (tp_key t1 t2 hk)).1 (by rw [h2.len]; exact hn), r, e⟩
    · exfalso
      cases y <;> first | exact hy ⟨_, rfl⟩ | cases h
end
section
variable {X : DX} {o i value e f : Expr} {td ty tv tx : ED} {pos pos' apos mpos : Pos}
/-- {} -/
def dDNewK : ED := fun _ s Q => Q (.ref s.length) (s ++ [some (.dk [] [])])
def dDNewT : ED := fun _ s Q => Q (.ref s.length) (s ++ [some (.dt [] [])])
theorem pd_dnewK : PD X (.Dict [] [] pos) dDNewK := ⟨pe_imp pe_dnewK fun σ H Q ⟨env, s, A, B, w, q⟩ p hp => by
  obtain ⟨r, e⟩ := w.rs.born (o := .dK []) (mo := .dk [] []) hp ⟨[], upd_same, rfl, .nil⟩
  exact q _ _ _ r e (.ref (by rw [← w.rs.len]; simp)), fun _ _ _ _ g q => g _ _ q⟩
theorem pd_dnewT : PD X (.Dict [] [] pos) dDNewT := ⟨pe_imp pe_dnewT fun σ H Q ⟨env, s, A, B, w, q⟩ p hp => by
  obtain ⟨r, e⟩ := w.rs.born (o := .dT []) (mo := .dt [] []) hp ⟨[], upd_same, rfl, .nil⟩
  exact q _ _ _ r e (.ref (by rw [← w.rs.len]; simp)), fun _ _ _ _ g q => g _ _ q⟩
/-- d[y] -/
def dDGet (td ty : ED) : ED := fun env s Q => td env s fun x s1 => ty env s1 fun y s2 => ∃ dv z, dictD s2 x = some dv ∧ dv.get y = some (some z) ∧ Q z s2
theorem mono_dget (md : Mono td) (my : Mono ty) : Mono (dDGet td ty) := fun _ _ _ _ g h => md _ _ _ _ (fun _ _ h => my _ _ _ _ (fun _ _ ⟨dv, z, a, b, q⟩ => ⟨dv, z, a, b, g _ _ q⟩) h) h
theorem pd_dget (hu : X.A.units + 64 < cLine) (ho : PD X o td) (hi : PD X i ty) (hs : NoSl i) : PD X (.Subscript o i pos) (dDGet td ty) :=
  ⟨pe_imp (pe_dget (by omega) ho.pe hi.pe hs) fun σ H Q ⟨env, s, A, B, w, h⟩ => rdE_go ho.mono w h fun x s1 v H1 A1 h1 w1 e1 dx => rdE_go hi.mono w1 h1 fun y s2 u H2 A2 ⟨dv, z, hd, hg, q⟩ w2 e2 dy => by
    obtain ⟨a, rfl, at'⟩ := dictD_rd w2.rs (dx.ext e2) hd
    obtain ⟨r, g, _, z2⟩ := dget_rd w2.rs at' dy hg
    obtain ⟨wv, rfl, dz⟩ := z2 z rfl
    exact ⟨a, wv, rfl, g, q _ _ _ w2.rs (e1.trans e2) dz⟩, mono_dget ho.mono hi.mono⟩
/-- y in d, y not in d -/
def dDIn (g : Bool → Bool) (ty td : ED) : ED := fun env s Q => ty env s fun y s1 => td env s1 fun x s2 => ∃ dv o, dictD s2 x = some dv ∧ dv.get y = some o ∧ Q (.bl (g o.isSome)) s2
theorem mono_din {g : Bool → Bool} (my : Mono ty) (md : Mono td) : Mono (dDIn g ty td) := fun _ _ _ _ g' h => my _ _ _ _ (fun _ _ h => md _ _ _ _ (fun _ _ ⟨dv, z, a, b, q⟩ => ⟨dv, z, a, b, g' _ _ q⟩) h) h
theorem isSome_of {r : Option V} {od : Option D} {P : D → V → Prop} (h1 : od = none → r = none) (h2 : ∀ z, od = some z → ∃ w, r = some w ∧ P z w) : r.isSome = od.isSome := by
  cases od with
  | none => rw [h1 rfl]; rfl
  | some z => obtain ⟨w, e, _⟩ := h2 z rfl; rw [e]; rfl
/-- d[y] = v -/
def dDPut (td ty tv : ED) : SD := fun E env s => tv env s fun z s1 => td env s1 fun x s2 => ty env s2 fun y s3 => ∃ l dv dv', x = .ref l ∧ dictM s3 x = some dv ∧ dv.put y z = some dv' ∧ dv.len < sizeLine ∧ E.nx env (s3.set l (some dv'.mo))
theorem mono_dput (md : Mono td) (my : Mono ty) (mv : Mono tv) : MonoS (dDPut td ty tv) := fun _ _ _ _ g h => mv _ _ _ _ (fun _ _ h => md _ _ _ _ (fun _ _ h => my _ _ _ _ (fun _ _ ⟨l, dv, dv', a, b, c, d, q⟩ => ⟨l, dv, dv', a, b, c, d, g.nx _ _ q⟩) h) h) h
theorem psd_dput (hu : X.A.units + 64 < cLine) (ho : PD X o td) (hi : PD X i ty) (hv : PD X value tv) (hs : swapsWith value (some (.Subscript o i pos')) pos.line X.env = pure false := by rfl) : PSD X (.Assign [.Subscript o i pos'] value pos) (dDPut td ty tv) :=
  ⟨ps_imp (ps_dput (by omega) ho.pe hi.pe hv.pe hs) fun E σ H ⟨env, s, A, B, w, h⟩ => rdE_go hv.mono w h fun z s1 wv H1 A1 h1 w1 e1 dz => rdE_go ho.mono w1 h1 fun x s2 v H2 A2 h2 w2 e2 dx => rdE_go hi.mono w2 h2 fun y s3 u H3 A3 ⟨l, dv, dv', ex, hd, hp, hn, q⟩ w3 e3 dy => by
    obtain ⟨l', a, mo, ex', rfl, hl, hA, at', lv⟩ := dictM_rd w3.rs (dx.ext e3) hd
    rw [ex] at ex'
    cases ex'
    obtain ⟨H', g, r, e⟩ := dput_rd w3.rs hl hA lv at' dy (dz.ext (e2.trans e3)) hp hn
    exact ⟨a, H', rfl, g, q _ _ _ r (((e1.trans e2).trans e3).trans e) (w3.re.ext e)⟩, mono_dput ho.mono hi.mono hv.mono⟩
/-- d.get(y, x) -/
def dDGet2 (td ty tx : ED) : ED := fun env s Q => td env s fun x s1 => (dictD s1 x).isSome = true ∧ ty env s1 fun y s2 => tx env s2 fun z s3 => ∃ dv o, dictD s3 x = some dv ∧ dv.get y = some o ∧ Q (o.getD z) s3
theorem mono_dget2 (md : Mono td) (my : Mono ty) (mx : Mono tx) : Mono (dDGet2 td ty tx) := fun _ _ _ _ g h => md _ _ _ _ (fun _ _ ⟨hs, h⟩ => ⟨hs, my _ _ _ _ (fun _ _ h => mx _ _ _ _ (fun _ _ ⟨dv, z, a, b, q⟩ => ⟨dv, z, a, b, g _ _ q⟩) h) h⟩) h
theorem isD_rd {K : PySem.W.Frag} {F : Hp} {A : List Addr} {H : Hp} {a : Addr} {dv : DV} (h : DvAt K F A H a dv) : IsD H a := by
  cases dv with
  | k es => obtain ⟨kvs, h, _⟩ := h; exact .inl ⟨kvs, h⟩
  | t es => obtain ⟨kvs, h, _⟩ := h; exact .inr ⟨kvs, h⟩
theorem pd_dget2 (hu : X.A.units + 64 < cLine) (ho : PD X o td) (he : PD X e ty) (hf : PD X f tx) (m : M2 X o "get" apos e f mpos) : PD X (.Call (.Attribute o "get" apos) [e, f] [] mpos) (dDGet2 td ty tx) :=
  ⟨pe_imp (pe_dget2 (by omega) ho.pe he.pe hf.pe m) fun σ H Q ⟨env, s, A, B, w, h⟩ => rdE_go ho.mono w h fun x s1 v H1 A1 ⟨hs, h1⟩ w1 e1 dx => by
    obtain ⟨dv1, hd1⟩ := Option.isSome_iff_exists.mp hs
    obtain ⟨a, rfl, at1⟩ := dictD_rd w1.rs dx hd1
    refine ⟨a, rfl, isD_rd at1, rdE_go he.mono w1 h1 fun y s2 u H2 A2 h2 w2 e2 dy => rdE_go hf.mono w2 h2 fun z s3 wz H3 A3 ⟨dv, od, hd, hg, q⟩ w3 e3 dz => ?_⟩
    obtain ⟨a', ea, at'⟩ := dictD_rd w3.rs (dx.ext (e2.trans e3)) hd
    cases ea
    obtain ⟨r, g, z1, z2⟩ := dget_rd w3.rs at' (dy.ext e3) hg
    refine ⟨r, g, ?_⟩
    cases od with
    | none =>
      rw [z1 rfl]
      exact q _ _ _ w3.rs ((e1.trans e2).trans e3) dz
    | some z' =>
      obtain ⟨wv, rfl, d⟩ := z2 _ rfl
      exact q _ _ _ w3.rs ((e1.trans e2).trans e3) d, mono_dget2 ho.mono he.mono hf.mono⟩
end
end Dl
set_option Elab.async false
set_option linter.all false
set_option autoImplicit false
set_option maxRecDepth 100000
set_option maxHeartbeats 4000000
namespace Dl
open PySem PySem.Spec PyProof.Rows L2
section
variable {X : DX} {o : Expr} {td : ED} {p pos apos mpos : Pos}
def dListV (td : ED) : ED := fun env s Q => td env s fun x s1 => ∃ dv, dictD s1 x = some dv ∧ Q (.lst dv.vals) s1
end
end Dl
set_option Elab.async false
set_option linter.all false
set_option autoImplicit false
set_option maxRecDepth 100000
set_option maxHeartbeats 4000000
namespace Dl
open PySem PySem.Spec PyProof.Rows L2
def mulLF (_ : Sto) (x y : D) : Option D := match x, y with
  | .lst xs, .int k => if (-(2 ^ 63) ≤ k ∧ k < 2 ^ 63) ∧ xs.length * k.toNat ≤ sizeLine then some (.lst (List.replicate k.toNat xs).flatten) else none
  | _, _ => none
end Dl
set_option Elab.async false
set_option linter.all false
set_option autoImplicit false
set_option maxRecDepth 100000
set_option maxHeartbeats 4000000
namespace Dl
open PySem PySem.Spec PyProof.Rows L2
noncomputable def srt (ds : List D) : List D := ds.mergeSort (PySem.W.dataLe false pyD)
def kD : Key → D
  | .inl i => .int i
  | .inr z => .str z
/-- all is kept but the tables -/
theorem RepS.growN {K : PySem.W.Frag} {B : List Addr} {H H' : Hp} {A : List Addr} {s : Sto} (R : RepS K B H A s) (g : LamX.ExtN H H') (tb : LamX.Tabs (tabsOf K) H') : RepS K B H' A s ∧ Ext B H A s H' A s := by
  have eq : ∀ a, H a ≠ none → (∀ ps, H a ≠ some (.tbl ps)) → H' a = H a := fun a ha hx => by
    cases h : H a with
    | none => exact absurd h ha
    | some o => exact g a o h fun ps z => hx ps (by rw [h, z])
  have eA : ∀ a ∈ A, H' a = H a := fun a ha => eq a (R.hd a ha) (R.hx a ha)
  have eB : ∀ b ∈ B, H' b = H b := fun b hb => eq b (R.hb b hb) fun ps z => (R.ht b hb _ z).b ps rfl
  have e1 : Same (Fz B H A s) (Fz B H' A s) := fun b u h => by
    obtain ⟨h1, h2, h3⟩ := fz_of h
    exact fz_to (g b u h1 (fz_nt h)) h2 h3 (fz_nt h)
  refine ⟨⟨R.len, R.inj, fun a ha => by rw [eA a ha]; exact R.hd a ha, fun b hb => by rw [eB b hb]; exact R.hb b hb, R.ab, fun b hb => by rw [eB b hb]; exact R.ht b hb, fun a ha => by rw [eA a ha]; exact R.hx a ha, tb, fun l mo h => ?_⟩, ⟨e1, fun _ _ h => h, eB⟩⟩
  obtain ⟨a, ha, ho⟩ := R.ob l mo h
  exact ⟨a, ha, ho.mono e1 (fun _ _ h => h) (eA a (List.mem_of_getElem? ha))⟩
theorem RepS.grow {K : PySem.W.Frag} {B : List Addr} {H H' : Hp} {A : List Addr} {s : Sto} (R : RepS K B H A s) (g : ∀ b o, H b = some o → H' b = some o) : RepS K B H' A s ∧ Ext B H A s H' A s := R.growN (.of g) (R.tb.ext g)
section
variable {X : DX} {o : Expr} {td : ED} {p pos apos mpos : Pos}
theorem keys_dat {K : PySem.W.Frag} {F : Hp} {A : List Addr} : ∀ {ks : List Key}, (∀ k ∈ ks, ∀ z, k = Sum.inr z → z.length ≤ sizeLine) → DatL K F A (ks.map kD) (ks.map kV)
  | [], _ => .nil
  | k :: ks, h => by
    have h2 := keys_dat (K := K) (F := F) (A := A) (ks := ks) fun k hk => h k (List.mem_cons_of_mem _ hk)
    cases k with
    | inl i => exact .cons (.int i) h2
    | inr z => exact .cons (.str z (h _ List.mem_cons_self z rfl)) h2
end
end Dl
set_option Elab.async false
set_option linter.all false
set_option autoImplicit false
set_option maxRecDepth 100000
set_option maxHeartbeats 4000000
namespace Dl
open PySem PySem.Spec PyProof.Rows L2
def keyP : Key → PyData
  | .inl i => .int i
  | .inr z => .str z
end Dl
set_option Elab.async false
set_option linter.all false
set_option autoImplicit false
set_option maxRecDepth 100000
set_option maxHeartbeats 4000000
namespace Dl
open PySem PySem.Spec PyProof.Rows L2
end Dl
set_option Elab.async false
set_option linter.all false
set_option autoImplicit false
set_option maxRecDepth 100000
set_option maxHeartbeats 4000000
namespace Dl
open PySem PySem.Spec PyProof.Rows L2
end Dl
set_option Elab.async false
set_option linter.all false
set_option autoImplicit false
set_option maxRecDepth 100000
set_option maxHeartbeats 4000000
namespace Dl
open PySem PySem.Spec PyProof.Rows L2
/-- the heap grew -/
def Kd (s s' : Shared) : Prop := ∃ (h' : Heap) (tk : Nat), s' = { s with heap := h', toks := tk } ∧ ∀ b o, s.heap.get? b = some o → h'.get? b = some o
theorem Kd.refl {s : Shared} : Kd s s := ⟨s.heap, s.toks, rfl, fun _ _ e => e⟩
theorem Kd.trans {s s' s'' : Shared} (a : Kd s s') (b : Kd s' s'') : Kd s s'' := by
  obtain ⟨h1, t1, rfl, k1⟩ := a
  obtain ⟨h2, t2, rfl, k2⟩ := b
  exact ⟨h2, t2, rfl, fun b o e => k2 b o (k1 b o e)⟩
theorem Kd.tok {s : Shared} {t : Nat} : Kd s { s with toks := t } := ⟨s.heap, t, rfl, fun _ _ e => e⟩
/-- a key's body is read: x is the parameter, u its value, d its datum -/
structure KSt (X : Cx) (env : PySem.Env) (x : Str) (u : Value) (d : D) (s : Shared) : Prop where
  mod : Mod X.K X.mg X.base
  kind : env.scope.kind = .function
  loc : env.scope.names.lookup x = some .local
  glob : env.globals = mainGlobals
  blt : env.builtins = builtinsNs
  ns : ∃ m, s.heap.Ns env.locals m ∧ m x = some u
  bs : ∀ b o, X.base.get? b = some o → s.heap.get? b = some o
  at_ : ∃ (F H : Hp) (A0 : List Addr) (v : V), HOk X.prog X.w H s.heap ∧ Same F H ∧ Dat X.K F A0 d v ∧ RelV v u
theorem KSt.kd {X : Cx} {env : PySem.Env} {x : Str} {u : Value} {d : D} {s s' : Shared} (k : KSt X env x u d s) (e : Kd s s') : KSt X env x u d s' := by
  obtain ⟨h', tk, rfl, kp⟩ := e
  obtain ⟨m, h1, h2⟩ := k.ns
  obtain ⟨F, H, A0, v, a1, a2, a3, a4⟩ := k.at_
  exact ⟨k.mod, k.kind, k.loc, k.glob, k.blt, ⟨m, h1.keeps kp, h2⟩, fun b o e => kp b o (k.bs b o e), F, H, A0, v, a1.kept kp, a2, a3, a4⟩
def scO : D → Option D
  | .int i => some (.int i)
  | .str z => some (.str z)
  | _ => none
/-- v[i] -/
def kItem (i : Nat) : D → Option D
  | .tup (d0 :: ds) => if (keyD1 d0).isSome = true then ((d0 :: ds)[i]?).bind scO else none
  | _ => none
/-- len(..) of a text -/
def kLen (t : D → Option D) : D → Option D := fun d => match t d with
  | some (.str z) => if z.length ≤ 1000000 then some (.int z.length) else none
  | _ => none
def kNil : D → Option (List D) := fun _ => some []
def kCons (t : D → Option D) (r : D → Option (List D)) : D → Option (List D) := fun d => (t d).bind fun z => (r d).map (z :: ·)
def kTup (r : D → Option (List D)) : D → Option D := fun d => (r d).bind fun zs => if zs.length ≤ 1000 then some (.tup zs) else none
def keyD (f : D → Option D) (d : D) : PyData := pyD ((f d).getD .non)
end Dl
set_option Elab.async false
set_option linter.all false
set_option autoImplicit false
set_option maxRecDepth 100000
set_option maxHeartbeats 4000000
namespace Dl
open PySem PySem.Spec PyProof.Rows L2
def notNone : PyData → Bool
  | .none => false
  | _ => true
def ltOk (x y : D) : Bool := seqs x && seqs y && PySem.W.alike (pyD x) (pyD y) && notNone (pyD x) && decide ((pyD x).depth ≤ 40)
def ltDF (_ : Sto) (x y : D) : Option D := if ltOk x y = true then some (.bl (PySem.W.dataLt (pyD x) (pyD y))) else none
theorem opx_ltD {X : Cx} (hu : X.A.units + 64 < cLine) : OpX X (compareOp .Lt) (oF ltDF) := by
  refine ⟨fun x y H Q => ∃ (F : Hp) (A0 : List Addr) (a b : D), Same F H ∧ Dat X.K F A0 a x ∧ Dat X.K F A0 b y ∧ ltOk a b = true ∧ Q (.bl (PySem.W.dataLt (pyD a) (pyD b))) H, ?_, ?_⟩
  · intro pins s σ H x y v u Q I rx ry h
    obtain ⟨F, A0, a, b, hF, da, db, ok, q⟩ := h
    unfold ltOk at ok
    simp only [Bool.and_eq_true, decide_eq_true_eq] at ok
    obtain ⟨⟨⟨⟨o1, o2⟩, o3⟩, o4⟩, o5⟩ := ok
    obtain ⟨as, ra⟩ := reads_of I hF a x v o1 da rx
    obtain ⟨bs, rb⟩ := reads_of I hF b y u o2 db ry
    have hn : pyD a ≠ .none := fun z => by rw [z] at o4; cases o4
    show wpAny _ _ (richCompare .Lt v u) _ _ s
    exact PySem.W.rcLt_alike (pyD a) (pyD b) X.A s v u as bs ra rb o3 hn (by have := Nat.min_le_left (pyD a).depth (pyD b).depth; omega) X.prog X.w _ _ ⟨.bl _, H, I, rfl, q⟩
  · intro x y s v w H A B Q R dv dw h
    obtain ⟨z, e, q⟩ := h
    unfold ltDF at e
    split at e
    · rename_i ok
      cases e
      exact ⟨Fz B H A s, A, x, y, fz_same, dv, dw, ok, q.here R (.bl _)⟩
    · cases e
end Dl
set_option Elab.async false
set_option linter.all false
set_option autoImplicit false
set_option maxRecDepth 100000
set_option maxHeartbeats 4000000
namespace Dl
open PySem PySem.Spec PyProof.Rows L2
end Dl
set_option Elab.async false
set_option linter.all false
set_option autoImplicit false
set_option maxRecDepth 100000
set_option maxHeartbeats 4000000
namespace Dl
open PySem PySem.Spec PyProof.Rows L2
theorem exAt_away {K : PySem.W.Frag} {F F' : Hp} {a b : Addr} {o : Obj} {u : HO} {x : Str} {ks : List Str} {fvs : List (Str × V)} (hne : ∀ b o, F b = some o → b ≠ a → F' b = some o) (hf : F a = some (.frz o u)) : ExAt K F x ks b fvs → ExAt K F' x ks b fvs := fun ⟨cls, h, q⟩ =>
  have go : ∀ {c w}, F c = some w → (∀ o u, w ≠ .frz o u) → F' c = some w := fun e n => hne _ _ e fun z => by rw [z, hf] at e; exact n _ _ (Option.some.inj e).symm
  ⟨cls, h, q.elim (fun ⟨a, b, c⟩ => .inl ⟨go a (fun _ _ z => nomatch z), b, c⟩) fun q => .inr (q.elim (fun ⟨d, a, b, c⟩ => .inl ⟨d, go a (fun _ _ z => nomatch z), go b (fun _ _ z => nomatch z), c⟩) fun ⟨t, z, a, b, c⟩ => .inr ⟨t, z, go a (fun _ _ z => nomatch z), go b (fun _ _ z => nomatch z), c⟩)⟩
theorem tp_away {K : PySem.W.Frag} {F F' : Hp} {a b : Addr} {o : Obj} {u : HO} {vs : List V} (hne : ∀ b o, F b = some o → b ≠ a → F' b = some o) (hf : F a = some (.frz o u)) (hu : ∀ xs, u ≠ .tup xs) (t : TpF K F b vs) : TpF K F' b vs := by
  have h1 : ∀ {ws}, F b = some (.tup ws) → F' b = some (.tup ws) := fun h => hne _ _ h fun z => by rw [z, hf] at h; cases h
  refine ⟨?_, t.t.imp h1 id⟩
  rcases t.q with (h | ⟨o', h⟩) | h
  · exact .inl (.inl (h1 h))
  · exact .inl (.inr ⟨o', hne _ _ h fun z => by rw [z, hf] at h; cases h; exact hu _ rfl⟩)
  · exact .inr h
mutual
theorem Dat.away {K : PySem.W.Frag} {F F' : Hp} {A : List Addr} {a : Addr} {o : Obj} {u : HO} (hne : ∀ b o, F b = some o → b ≠ a → F' b = some o) (hf : F a = some (.frz o u)) (hu : (∀ xs, u ≠ .lst xs) ∧ ∀ xs, u ≠ .tup xs) : ∀ (d : D) (v : V), Dat K F A d v → Dat K F' A d v
  | .non, _, h => by cases h; exact .non
  | .bl _, _, h => by cases h; exact .bl _
  | .int _, _, h => by cases h; exact .int _
  | .str _, _, h => by cases h with | str _ h => exact .str _ h
  | .tup ds, _, h => by
    cases h with
    | tup h1 h2 => exact .tup (tp_away hne hf hu.2 h1) (DatL.away hne hf hu _ _ h2)
  | .lst ds, _, h => by
    cases h with
    | lst h1 h2 => exact .lst (hne _ _ h1 fun z => by rw [z, hf] at h1; cases h1) (DatL.away hne hf hu _ _ h2)
  | .frl ds, _, h => by
    cases h with
    | frl h1 h2 =>
      refine .frl ?_ (DatL.away hne hf hu _ _ h2)
      rcases h1 with ⟨o', h1⟩ | h1
      · exact .inl ⟨o', hne _ _ h1 fun z => by rw [z, hf] at h1; cases h1; exact hu.1 _ rfl⟩
      · exact .inr h1
  | .dk _ ds, _, h => by
    cases h with
    | dk h1 h2 => exact .dk (hne _ _ h1 fun z => by rw [z, hf] at h1; cases h1) (DatL.away hne hf hu _ _ h2)
  | .dt _ ds, _, h => by
    cases h with
    | dt h1 h2 => exact .dt (hne _ _ h1 fun z => by rw [z, hf] at h1; cases h1) (DatL.away hne hf hu _ _ h2)
  | .ref _, _, h => by cases h with | ref h => exact .ref h
  | .exc _ _ xs, _, h => by
    cases h with
    | exc h1 h2 => exact .exc (exAt_away hne hf h1) (DatL.away hne hf hu xs _ h2)
theorem DatL.away {K : PySem.W.Frag} {F F' : Hp} {A : List Addr} {a : Addr} {o : Obj} {u : HO} (hne : ∀ b o, F b = some o → b ≠ a → F' b = some o) (hf : F a = some (.frz o u)) (hu : (∀ xs, u ≠ .lst xs) ∧ ∀ xs, u ≠ .tup xs) : ∀ (ds : List D) (vs : List V), DatL K F A ds vs → DatL K F' A ds vs
  | [], _, h => by cases h; exact .nil
  | d :: ds, _, h => by
    cases h with
    | cons h1 h2 => exact .cons (Dat.away hne hf hu _ _ h1) (DatL.away hne hf hu _ _ h2)
end
theorem lmo_dead {dv : DV} : dv.lmo.live = false := by cases dv <;> rfl
theorem mo_live {dv : DV} : dv.mo.live = true := by cases dv <;> rfl
/-- what a dict of the store is -/
def dvHO : DV → HO → Prop
  | .k es, u => ∃ kvs : List (Key × V), u = .dK kvs
  | .t es, u => ∃ kvs : List (List Key × V), u = .dT kvs
theorem dvHO_nt {dv : DV} {u : HO} (h : dvHO dv u) : (∀ xs, u ≠ .lst xs) ∧ ∀ xs, u ≠ .tup xs := by
  cases dv with
  | k es => obtain ⟨kvs, rfl⟩ := h; exact ⟨(fun _ z => nomatch z), (fun _ z => nomatch z)⟩
  | t es => obtain ⟨kvs, rfl⟩ := h; exact ⟨(fun _ z => nomatch z), (fun _ z => nomatch z)⟩
theorem dvHO_nl {dv : DV} {u : HO} (h : dvHO dv u) : (∀ xs, u ≠ .lst xs) ∧ (∀ ps, u ≠ .tbl ps) ∧ (∀ f, u ≠ .ext f) ∧ Mut (some u) := by
  cases dv with
  | k es => obtain ⟨kvs, rfl⟩ := h; exact ⟨(fun _ z => nomatch z), (fun _ z => nomatch z), (fun _ z => nomatch z), trivial⟩
  | t es => obtain ⟨kvs, rfl⟩ := h; exact ⟨(fun _ z => nomatch z), (fun _ z => nomatch z), (fun _ z => nomatch z), trivial⟩
theorem obr_mo {K : PySem.W.Frag} {F : Hp} {A : List Addr} {H : Hp} {a : Addr} {dv : DV} (h : ObR K F A H a dv.mo) : ∃ u, H a = some u ∧ dvHO dv u ∧ ∀ (F' H' : Hp) (o : Obj), (∀ ds vs, DatL K F A ds vs → DatL K F' A ds vs) → H' a = some (.frz o u) → ObR K F' A H' a dv.lmo := by
  cases dv with
  | k es => obtain ⟨kvs, h1, h2, h3⟩ := h; exact ⟨_, h1, ⟨kvs, rfl⟩, fun F' H' o m e => ⟨o, kvs, e, h2, m _ _ h3⟩⟩
  | t es => obtain ⟨kvs, h1, h2, h3⟩ := h; exact ⟨_, h1, ⟨kvs, rfl⟩, fun F' H' o m e => ⟨o, kvs, e, h2, m _ _ h3⟩⟩
theorem obr_lmo {K : PySem.W.Frag} {F : Hp} {A : List Addr} {H : Hp} {a : Addr} {dv : DV} {o : Obj} {u : HO} (h : ObR K F A H a dv.lmo) (e : H a = some (.frz o u)) : ∀ (F' H' : Hp), (∀ ds vs, DatL K F A ds vs → DatL K F' A ds vs) → H' a = some u → ObR K F' A H' a dv.mo := by
  cases dv with
  | k es =>
    obtain ⟨o', kvs, h1, h2, h3⟩ := h
    rw [e] at h1
    cases h1
    exact fun F' H' m e => ⟨kvs, e, h2, m _ _ h3⟩
  | t es =>
    obtain ⟨o', kvs, h1, h2, h3⟩ := h
    rw [e] at h1
    cases h1
    exact fun F' H' m e => ⟨kvs, e, h2, m _ _ h3⟩
section
variable {K : PySem.W.Frag} {B : List Addr} {H : Hp} {A : List Addr} {s : Sto}
theorem RepS.lock (R : RepS K B H A s) {l : Nat} {a : Addr} {dv : DV} {u : HO} (o : Obj) (h : s[l]? = some (some dv.mo)) (ha : A[l]? = some a) (hu : H a = some u) :
    RepS K B (upd H a (.frz o u)) A (s.set l (some dv.lmo)) ∧ Ext B H A s (upd H a (.frz o u)) A (s.set l (some dv.lmo)) ∧ Fz B (upd H a (.frz o u)) A (s.set l (some dv.lmo)) a = some (.frz o u) := by
  have hl := (List.getElem?_eq_some_iff.mp h).1
  have haA : a ∈ A := List.mem_of_getElem? ha
  have lv : ∀ b, Live A (s.set l (some dv.lmo)) b → Live A s b ∧ b ≠ a := by
    rintro b ⟨k, m, h1, h2, h3⟩
    by_cases e : l = k
    · subst e
      rw [List.getElem?_set_self hl] at h1
      cases h1
      rw [lmo_dead] at h3; cases h3
    · rw [List.getElem?_set_ne e] at h1
      exact ⟨⟨k, m, h1, h2, h3⟩, fun z => e (nodup_get R.inj ha (by rw [← z]; exact h2))⟩
  have e1 : Same (Fz B H A s) (Fz B (upd H a (.frz o u)) A (s.set l (some dv.lmo))) := fun b w q => by
    obtain ⟨h1, h2, h3⟩ := fz_of q
    have nb : b ≠ a := fun z => h2 ⟨l, dv.mo, h, by rw [z]; exact ha, mo_live⟩
    exact fz_to (by rw [upd_ne nb]; exact h1) (fun z => h2 (lv b z).1) h3 (fz_nt q)
  obtain ⟨c, hc, ho⟩ := R.ob l _ h
  rw [ha] at hc
  cases hc
  have hid := obr_hid ho
  refine ⟨⟨by simp [R.len], R.inj, fun c hc => ?_, fun b hb => ?_, R.ab, fun b hb => by rw [upd_ne (fun z => R.ab b hb (by rw [z]; exact haA))]; exact R.ht b hb, fun c hc ps z => ?_, tabs_upd R.tb hid, fun k m q => ?_⟩, ⟨e1, fun _ _ z => z, fun b hb => upd_ne (fun z => R.ab b hb (by rw [z]; exact haA))⟩, fz_to upd_same (fun z => (lv a z).2 rfl) (fun z => R.ab a z haA)⟩
  · by_cases e : c = a
    · subst e; rw [upd_same]; exact fun z => nomatch z
    · rw [upd_ne e]; exact R.hd c hc
  · rw [upd_ne (fun z => R.ab b hb (by rw [z]; exact haA))]; exact R.hb b hb
  · by_cases e : c = a
    · rw [e, upd_same] at z; cases z
    · rw [upd_ne e] at z; exact R.hx c hc ps z
  · by_cases e : l = k
    · subst e
      rw [List.getElem?_set_self hl] at q
      cases q
      obtain ⟨u', hu', _, mk⟩ := obr_mo ho
      rw [hu] at hu'
      cases hu'
      exact ⟨a, ha, mk _ _ o (fun _ _ d => d.mono e1 (fun _ _ z => z)) upd_same⟩
    · rw [List.getElem?_set_ne e] at q
      obtain ⟨c, hc, ho'⟩ := R.ob k m q
      have nc : c ≠ a := fun z => e (nodup_get R.inj ha (by rw [← z]; exact hc))
      exact ⟨c, hc, ho'.mono e1 (fun _ _ z => z) (upd_ne nc)⟩
theorem RepS.unlock (R : RepS K B H A s) {l : Nat} {a : Addr} {dv : DV} {u : HO} {o : Obj} (h : s[l]? = some (some dv.lmo)) (ha : A[l]? = some a) (hu : H a = some (.frz o u)) (hd : dvHO dv u) :
    RepS K B (upd H a u) A (s.set l (some dv.mo)) ∧ (∀ b w, Fz B H A s b = some w → b ≠ a → Fz B (upd H a u) A (s.set l (some dv.mo)) b = some w) ∧ Fz B H A s a = some (.frz o u) := by
  have hl := (List.getElem?_eq_some_iff.mp h).1
  have haA : a ∈ A := List.mem_of_getElem? ha
  have nlv : ¬ Live A s a := by
    rintro ⟨k, m, h1, h2, h3⟩
    have := nodup_get R.inj ha h2
    subst this
    rw [h] at h1
    cases h1
    rw [lmo_dead] at h3; cases h3
  have lv : ∀ b, b ≠ a → Live A (s.set l (some dv.mo)) b → Live A s b := by
    rintro b nb ⟨k, m, h1, h2, h3⟩
    by_cases e : l = k
    · subst e
      rw [ha] at h2
      cases h2
      exact absurd rfl nb
    · rw [List.getElem?_set_ne e] at h1
      exact ⟨k, m, h1, h2, h3⟩
  have e1 : ∀ b w, Fz B H A s b = some w → b ≠ a → Fz B (upd H a u) A (s.set l (some dv.mo)) b = some w := fun b w q nb => by
    obtain ⟨h1, h2, h3⟩ := fz_of q
    exact fz_to (by rw [upd_ne nb]; exact h1) (fun z => h2 (lv b nb z)) h3 (fz_nt q)
  have ef : Fz B H A s a = some (.frz o u) := fz_to hu nlv (fun z => R.ab a z haA)
  have dl : ∀ ds vs, DatL K (Fz B H A s) A ds vs → DatL K (Fz B (upd H a u) A (s.set l (some dv.mo))) A ds vs := fun ds vs d => DatL.away e1 ef (dvHO_nt hd) ds vs d
  obtain ⟨c, hc, ho⟩ := R.ob l _ h
  rw [ha] at hc
  cases hc
  have hid := obr_hid ho
  refine ⟨⟨by simp [R.len], R.inj, fun c hc => ?_, fun b hb => ?_, R.ab, fun b hb => by rw [upd_ne (fun z => R.ab b hb (by rw [z]; exact haA))]; exact R.ht b hb, fun c hc ps z => ?_, tabs_upd R.tb hid, fun k m q => ?_⟩, e1, ef⟩
  · by_cases e : c = a
    · subst e; rw [upd_same]; exact fun z => nomatch z
    · rw [upd_ne e]; exact R.hd c hc
  · rw [upd_ne (fun z => R.ab b hb (by rw [z]; exact haA))]; exact R.hb b hb
  · by_cases e : c = a
    · rw [e, upd_same] at z
      exact (dvHO_nl hd).2.1 ps (Option.some.inj z)
    · rw [upd_ne e] at z; exact R.hx c hc ps z
  · by_cases e : l = k
    · subst e
      rw [List.getElem?_set_self hl] at q
      cases q
      exact ⟨a, ha, obr_lmo ho hu _ _ dl upd_same⟩
    · rw [List.getElem?_set_ne e] at q
      obtain ⟨c, hc, ho'⟩ := R.ob k m q
      have nc : c ≠ a := fun z => e (nodup_get R.inj ha (by rw [← z]; exact hc))
      refine ⟨c, hc, ?_⟩
      have hcc : upd H a u c = H c := upd_ne nc
      cases m with
      | lst _ => obtain ⟨vs, h, d⟩ := ho'; exact ⟨vs, hcc.trans h, dl _ _ d⟩
      | dk _ _ => obtain ⟨kvs, h, k, d⟩ := ho'; exact ⟨kvs, hcc.trans h, k, dl _ _ d⟩
      | dt _ _ => obtain ⟨kvs, h, k, d⟩ := ho'; exact ⟨kvs, hcc.trans h, k, dl _ _ d⟩
      | ins _ _ => obtain ⟨C, dx, fvs, g, h, k, d⟩ := ho'; exact ⟨C, dx, fvs, g, hcc.trans h, k, dl _ _ d⟩
      | fdk _ _ => obtain ⟨o, kvs, h, k, d⟩ := ho'; exact ⟨o, kvs, hcc.trans h, k, dl _ _ d⟩
      | fdt _ _ => obtain ⟨o, kvs, h, k, d⟩ := ho'; exact ⟨o, kvs, hcc.trans h, k, dl _ _ d⟩
/-- from ahead of the lock to behind it -/
theorem ext_unlock (R : RepS K B H A s) {l : Nat} {a : Addr} {dv : DV} {u : HO} {o : Obj} (h : s[l]? = some (some dv.mo)) (ha : A[l]? = some a) (hu : H a = some u) {H' : Hp} {A' : List Addr} {s' : Sto} (R' : RepS K B H' A' s') (e : Ext B (upd H a (.frz o u)) A (s.set l (some dv.lmo)) H' A' s') (h' : s'[l]? = some (some dv.lmo)) (hd : dvHO dv u) :
    A'[l]? = some a ∧ H' a = some (.frz o u) ∧ RepS K B (upd H' a u) A' (s'.set l (some dv.mo)) ∧ Ext B H A s (upd H' a u) A' (s'.set l (some dv.mo)) ∧ (∀ d v, Dat K (Fz B H' A' s') A' d v → Dat K (Fz B (upd H' a u) A' (s'.set l (some dv.mo))) A' d v) := by
  obtain ⟨R1, e1, f1⟩ := R.lock o h ha hu
  have ha' := e.pre _ _ ha
  have f' : Fz B H' A' s' a = some (.frz o u) := e.same _ _ f1
  have hu' := (fz_of f').1
  obtain ⟨R2, e2, f2⟩ := R'.unlock h' ha' hu' hd
  refine ⟨ha', hu', R2, ⟨fun b w q => ?_, fun k c hc => e.pre _ _ (e1.pre _ _ hc), fun b hb => ?_⟩, fun d v dd => Dat.away e2 f2 (dvHO_nt hd) d v dd⟩
  · obtain ⟨q1, q2, q3⟩ := fz_of q
    have nb : b ≠ a := fun z => q2 ⟨l, dv.mo, h, by rw [z]; exact ha, mo_live⟩
    exact e2 b w (e.same _ _ (e1.same _ _ q)) nb
  · have haA' : a ∈ A' := List.mem_of_getElem? ha'
    rw [upd_ne (fun z => R'.ab b hb (by rw [z]; exact haA')), e.hid b hb]
    exact e1.hid b hb
end
def unlE (E : EndsD) (l : Nat) (dv : DV) : EndsD :=
  ⟨fun e s' => s'[l]? = some (some dv.lmo) ∧ E.nx e (s'.set l (some dv.mo)), fun x s' => s'[l]? = some (some dv.lmo) ∧ E.rt x (s'.set l (some dv.mo)),
    fun e s' => s'[l]? = some (some dv.lmo) ∧ E.bk e (s'.set l (some dv.mo)), fun e s' => s'[l]? = some (some dv.lmo) ∧ E.ct e (s'.set l (some dv.mo))⟩
/-- a statement within which the dict at l does not change -/
def dLock (t : SD) : SD := fun E env s => ∃ l dv, s[l]? = some (some (DV.mo dv)) ∧ t (unlE E l dv) env (s.set l (some dv.lmo))
section
variable {X : DX} {st : Stmt} {e : Expr}
theorem psd_lock {t : SD} (h : PSD X st t) : PSD X st (dLock t) :=
  ⟨ps_imp (ps_lock h.ps) fun D σ H ⟨env, s, A, B, w, l, dv, hs, q⟩ => by
    obtain ⟨a, ha, ho⟩ := w.rs.ob l _ hs
    obtain ⟨u, hu, hd, _⟩ := obr_mo ho
    refine ⟨a, u, hu, (dvHO_nl hd).2.2.2, fun od => ?_⟩
    obtain ⟨R1, e1, f1⟩ := w.rs.lock od hs ha hu
    have un := fun {H' : Hp} {A' : List Addr} {s' : Sto} (R' : RepS X.K B H' A' s') (e' : Ext B (upd H a (.frz od u)) A (s.set l (some dv.lmo)) H' A' s') (h' : s'[l]? = some (some dv.lmo)) => ext_unlock (o := od) w.rs hs ha hu R' e' h' hd
    refine ⟨env, _, A, B, w.to R1 e1, h.mono _ _ _ _ ⟨?_, ?_, ?_, ?_⟩ q⟩
    · rintro e s' ⟨h1, h2⟩ σ' H' A' R' e' re
      obtain ⟨u1, u2, u3, u4, u5⟩ := un R' e' h1
      exact ⟨u2, h2 σ' _ A' u3 u4 ⟨re.len, fun i d q => let ⟨v, q1, q2⟩ := re.get i d q; ⟨v, q1, u5 _ _ q2⟩⟩⟩
    · rintro x s' ⟨h1, h2⟩ v H' A' R' e' dv'
      obtain ⟨u1, u2, u3, u4, u5⟩ := un R' e' h1
      exact ⟨u2, h2 v _ A' u3 u4 (u5 _ _ dv')⟩
    · rintro e s' ⟨h1, h2⟩ σ' H' A' R' e' re
      obtain ⟨u1, u2, u3, u4, u5⟩ := un R' e' h1
      exact ⟨u2, h2 σ' _ A' u3 u4 ⟨re.len, fun i d q => let ⟨v, q1, q2⟩ := re.get i d q; ⟨v, q1, u5 _ _ q2⟩⟩⟩
    · rintro e s' ⟨h1, h2⟩ σ' H' A' R' e' re
      obtain ⟨u1, u2, u3, u4, u5⟩ := un R' e' h1
      exact ⟨u2, h2 σ' _ A' u3 u4 ⟨re.len, fun i d q => let ⟨v, q1, q2⟩ := re.get i d q; ⟨v, q1, u5 _ _ q2⟩⟩⟩,
  fun E E' env s g ⟨l, dv, hs, q⟩ => ⟨l, dv, hs, h.mono (unlE E l dv) (unlE E' l dv) _ _ ⟨fun e s' ⟨a, b⟩ => ⟨a, g.nx _ _ b⟩, fun e s' ⟨a, b⟩ => ⟨a, g.rt _ _ b⟩, fun e s' ⟨a, b⟩ => ⟨a, g.bk _ _ b⟩, fun e s' ⟨a, b⟩ => ⟨a, g.ct _ _ b⟩⟩ q⟩⟩
end
def DV.keys : DV → List D
  | .k es => es.map fun p => kD p.1
  | .t es => es.map fun p => .tup (p.1.map kD)
def keyOk : Key → Prop
  | .inl _ => True
  | .inr z => z.length ≤ sizeLine
def KeysOk : DV → Prop
  | .k es => ∀ p ∈ es, keyOk p.1
  | .t es => ∀ p ∈ es, ∀ k ∈ p.1, keyOk k
theorem key_dat {K : PySem.W.Frag} {F : Hp} {A : List Addr} : ∀ {k : Key}, keyOk k → Dat K F A (kD k) (kV k)
  | .inl i, _ => .int i
  | .inr z, h => .str z h
def iKeysD (te : ED) : ID := fun env s R => te env s fun x s1 => ∃ l dv, x = .ref l ∧ s1[l]? = some (some (DV.lmo dv)) ∧ KeysOk dv ∧ R dv.keys (fun s' => s'[l]? = some (some dv.lmo)) s1
theorem mono_iKeys {te : ED} (m : Mono te) : MonoI (iKeysD te) := fun _ _ _ _ g h => m _ _ _ _ (fun _ _ ⟨l, dv, a, b, c, q⟩ => ⟨l, dv, a, b, c, g _ _ _ q⟩) h
theorem pid_keys {X : DX} {tg e : Expr} {te : ED} (he : PD X e te) : PID X tg e (iKeysD te) :=
  ⟨pi_imp (pi_keys he.pe) fun σ H R ⟨env, s, A, B, w, h⟩ => rdE_go he.mono w h fun x s1 v H1 A1 ⟨l, dv, ex, hl, ok, q⟩ w1 e1 dx => by
    subst ex
    cases dx with
    | @ref _ a hA =>
    obtain ⟨c, hc, ho⟩ := w1.rs.ob l _ hl
    rw [hA] at hc
    cases hc
    have nlv : ¬ Live A1 s1 a := by
      rintro ⟨k, m, h1, h2, h3⟩
      have := nodup_get w1.rs.inj hA h2
      subst this
      rw [hl] at h1
      cases h1
      rw [lmo_dead] at h3; cases h3
    have haB : a ∉ B := fun z => w1.rs.ab a z (List.mem_of_getElem? hA)
    cases dv with
    | k es =>
      obtain ⟨o, kvs, h1, h2, h3⟩ := ho
      have hF : Fz B H1 A1 s1 a = some (.frz o (.dK kvs)) := fz_to h1 nlv haB
      refine ⟨a, o, rfl, .inl ⟨kvs, h1, q _ _ _ w1.rs e1 fun B' H' A' s' R' sm p g i => ?_⟩⟩
      have hH : H' a = some (.frz o (.dK kvs)) := (fz_of (sm _ _ hF)).1
      have hlen : (DV.keys (.k es)).length = kvs.length := by
        have := congrArg List.length h2
        show (es.map fun p => kD p.1).length = _
        rw [List.length_map]
        simpa using this.symm
      refine ⟨fun d hd => ⟨⟨hH, by rw [← hlen]; exact (List.getElem?_eq_some_iff.mp hd).1⟩, fun x H2 ⟨eH, k, v, hk, hx⟩ => ?_⟩, fun hi => ⟨hH, by rw [← hlen]; exact hi⟩⟩
      subst eH
      subst hx
      change (es.map fun p => kD p.1)[i]? = some d at hd
      rw [List.getElem?_map] at hd
      obtain ⟨p1, hp1, rfl⟩ := Option.map_eq_some_iff.mp hd
      have e3 : p1.1 = k := by
        have z1 : (kvs.map (·.1))[i]? = some k := by rw [List.getElem?_map, hk]; rfl
        have z2 : (es.map (·.1))[i]? = some p1.1 := by rw [List.getElem?_map, hp1]; rfl
        rw [h2] at z1
        exact Option.some.inj (z2.symm.trans z1)
      subst e3
      exact ⟨R', .refl, key_dat (ok p1 (List.mem_of_getElem? hp1))⟩
    | t es =>
      obtain ⟨o, kvs, h1, h2, h3⟩ := ho
      have hF : Fz B H1 A1 s1 a = some (.frz o (.dT kvs)) := fz_to h1 nlv haB
      refine ⟨a, o, rfl, .inr ⟨kvs, h1, q _ _ _ w1.rs e1 fun B' H' A' s' R' sm p g i => ?_⟩⟩
      have hH : H' a = some (.frz o (.dT kvs)) := (fz_of (sm _ _ hF)).1
      have hlen : (DV.keys (.t es)).length = kvs.length := by
        have := congrArg List.length h2
        show (es.map fun p => D.tup (p.1.map kD)).length = _
        rw [List.length_map]
        simpa using this.symm
      refine ⟨fun d hd => ⟨⟨hH, by rw [← hlen]; exact (List.getElem?_eq_some_iff.mp hd).1⟩, fun x H2 ⟨eH, k, v, y, hk, hx, hy⟩ => ?_⟩, fun hi => ⟨hH, by rw [← hlen]; exact hi⟩⟩
      subst eH
      subst hx
      change (es.map fun p => D.tup (p.1.map kD))[i]? = some d at hd
      rw [List.getElem?_map] at hd
      obtain ⟨p1, hp1, rfl⟩ := Option.map_eq_some_iff.mp hd
      have e3 : p1.1 = k := by
        have z1 : (kvs.map (·.1))[i]? = some k := by rw [List.getElem?_map, hk]; rfl
        have z2 : (es.map (·.1))[i]? = some p1.1 := by rw [List.getElem?_map, hp1]; rfl
        rw [h2] at z1
        exact Option.some.inj (z2.symm.trans z1)
      subst e3
      exact ⟨R', .refl, .tup (.of (R'.tup_fz hy)) (keys_dat fun k hk z e => by
        have := ok p1 (List.mem_of_getElem? hp1) k hk
        rw [e] at this
        exact this)⟩, mono_iKeys he.mono⟩
def isNotBF (_ : Sto) (x y : D) : Option D := match x, y with
  | .bl a, .bl b => some (.bl (!decide (a = b)))
  | _, _ => none
theorem opx_isNotB {X : Cx} : OpX X (compareOp .IsNot) (oF isNotBF) := opx_of op_notBl fun x y s v w H A B Q R dv dw ⟨z, e, q⟩ => by
  unfold isNotBF at e
  split at e
  · cases e
    cases dv
    cases dw
    exact ⟨_, _, rfl, rfl, q.here R (.bl _)⟩
  · cases e
end Dl
set_option Elab.async false
set_option linter.all false
set_option autoImplicit false
set_option maxRecDepth 100000
set_option maxHeartbeats 4000000
namespace Dl
open PySem PySem.Spec PyProof.Rows L2
def dDisp1 (tk tv : ED) : ED := fun env s Q => tk env (s ++ [some (.dk [] [])]) fun y s1 => tv env s1 fun z s2 => ∃ k, keyD1 y = some k ∧ s2[s.length]? = some (some (.dk [] [])) ∧ Q (.ref s.length) (s2.set s.length (some (.dk [k] [z])))
section
variable {X : DX}
theorem pd_disp1 {k v : Expr} {tk tv : ED} {pos : Pos} (hk : PD X k tk) (hv : PD X v tv) : PD X (.Dict [some k] [v] pos) (dDisp1 tk tv) :=
  ⟨pe_imp (pe_disp (pps_cons hk.pe hv.pe pps_nil) rfl rfl (by simp) (by simp)) fun σ H Q ⟨env, s, A, B, w, h⟩ p hp => by
    obtain ⟨r, e⟩ := w.rs.born (o := .dK []) (mo := .dk [] []) hp ⟨[], upd_same, rfl, .nil⟩
    refine rdE_go hk.mono (w.to r e) h fun y s1 v1 H1 A1 h1 w1 e1 d1 => rdE_go hv.mono w1 h1 fun z s2 v2 H2 A2 h2 w2 e2 d2 => ?_
    obtain ⟨kk, ek, hs, q⟩ := h2
    obtain ⟨a, ha, kvs, g1, g2, g3⟩ := w2.rs.ob _ _ hs
    have hA0 : (A ++ [p])[s.length]? = some p := by rw [← w.rs.len]; simp
    have hA := e2.pre _ _ (e1.pre _ _ hA0)
    rw [hA] at ha
    cases ha
    have : kvs = [] := List.map_eq_nil_iff.mp g2
    subst this
    have ky := key_rd (d1.ext e2) ek
    obtain ⟨r3, e3⟩ := w2.rs.write (o := .dK [(kk, v2)]) (mo' := .dk [kk] [z]) hs hA ⟨[(kk, v2)], upd_same, rfl, .cons d2 .nil⟩
    refine ⟨g1, [(kk, v2)], by rw [ky]; rfl, by simp, ?_⟩
    exact q _ _ _ r3 (((e.trans e1).trans e2).trans e3) (.ref hA), fun env s P P' g h => hk.mono _ _ _ _ (fun y s1 h => hv.mono _ _ _ _ (fun z s2 ⟨k, a, b, q⟩ => ⟨k, a, b, g _ _ q⟩) h) h⟩
end
def minI : List Int → Int
  | [] => 0
  | [x] => x
  | x :: y :: xs => min x (minI (y :: xs))
theorem minI_mem : ∀ {xs : List Int}, xs ≠ [] → minI xs ∈ xs ∧ ∀ y ∈ xs, minI xs ≤ y
  | [], h => absurd rfl h
  | [x], _ => ⟨by simp [minI], fun y hy => by rw [List.mem_singleton.mp hy]; exact Int.le_refl _⟩
  | x :: y :: xs, _ => by
    obtain ⟨h1, h2⟩ := minI_mem (xs := y :: xs) (by simp)
    have e : minI (x :: y :: xs) = min x (minI (y :: xs)) := rfl
    rw [e]
    refine ⟨?_, fun z hz => ?_⟩
    · rcases Int.le_total x (minI (y :: xs)) with h | h
      · rw [Int.min_eq_left h]; exact List.mem_cons_self
      · rw [Int.min_eq_right h]; exact List.mem_cons_of_mem _ h1
    · rcases List.mem_cons.mp hz with rfl | hz
      · exact Int.min_le_left _ _
      · exact Int.le_trans (Int.min_le_right _ _) (h2 z hz)
def minLF (s : Sto) : List D → Option D
  | [x] => match seqL s x with
    | some ds => match intsOf ds with
      | some (b :: bs) => some (.int (minI (b :: bs)))
      | _ => none
    | none => none
  | _ => none
theorem callx_minL {X : Cx} (hc : X.calm = true) : CallX X (.builtin "min") minLF := by
  refine ⟨_, cr_min hc, fun xs s vs H A B Q z R dv e q => ?_⟩
  unfold minLF at e
  split at e
  · rename_i x
    obtain ⟨v, rfl, d⟩ := one_of dv
    split at e
    · rename_i ds hs
      cases hb : intsOf ds with
      | none => rw [hb] at e; cases e
      | some bs =>
        rw [hb] at e
        cases bs with
        | nil => cases e
        | cons b bs =>
          cases e
          obtain ⟨a, vs, rfl, h1, h2⟩ := of_seqL R d hs
          rw [intsOf_eq hb] at h2
          refine ⟨a, b :: bs, rfl, by rw [← h2.ints]; exact h1, by simp, fun m hm hle => ?_⟩
          obtain ⟨k1, k2⟩ := minI_mem (xs := b :: bs) (by simp)
          have : m = minI (b :: bs) := Int.le_antisymm (hle _ k1) (k2 _ hm)
          rw [this]
          exact q.here R (.int _)
    · cases e
  · cases e
end Dl
set_option Elab.async false
set_option linter.all false
set_option autoImplicit false
set_option maxRecDepth 100000
set_option maxHeartbeats 4000000
namespace Sr
open Dl (minI minI_mem putP getP)
abbrev M := Option (Int × Int)
def ad : M → M → M
  | none, m => m
  | some p, none => some p
  | some (a, x), some (b, y) => if a < b then some (a, x) else if b < a then some (b, y) else some (a, x + y)
def sc (c w : Int) : M → M
  | none => none
  | some (a, x) => some (c + a, w * x)
theorem ad_none (m : M) : ad m none = m := by cases m <;> rfl
theorem ad_comm (m m' : M) : ad m m' = ad m' m := by
  cases m with
  | none => rw [ad_none]; rfl
  | some p =>
    cases m' with
    | none => rfl
    | some q =>
      obtain ⟨a, x⟩ := p
      obtain ⟨b, y⟩ := q
      show (if a < b then some (a, x) else if b < a then some (b, y) else some (a, x + y)) = (if b < a then some (b, y) else if a < b then some (a, x) else some (b, y + x))
      by_cases h1 : a < b
      · rw [if_pos h1, if_neg (by omega), if_pos h1]
      · by_cases h2 : b < a
        · rw [if_neg h1, if_pos h2, if_pos h2]
        · rw [if_neg h1, if_neg h2, if_neg h2, if_neg h1]
          have : a = b := by omega
          subst this
          rw [Int.add_comm]
theorem ad_some (a x b y : Int) : ad (some (a, x)) (some (b, y)) = if a < b then some (a, x) else if b < a then some (b, y) else some (a, x + y) := rfl
theorem ad_assoc (m m' m'' : M) : ad (ad m m') m'' = ad m (ad m' m'') := by
  cases m with
  | none => rfl
  | some p =>
    cases m' with
    | none => rfl
    | some q =>
      cases m'' with
      | none => rw [ad_none, ad_none]
      | some r =>
        obtain ⟨a, x⟩ := p
        obtain ⟨b, y⟩ := q
        obtain ⟨c, z⟩ := r
        rw [ad_some, ad_some]
        by_cases h1 : a < b
        · rw [if_pos h1]
          by_cases h2 : b < c
          · rw [if_pos h2, ad_some, ad_some, if_pos h1, if_pos (by omega)]
          · by_cases h3 : c < b
            · rw [if_neg h2, if_pos h3, ad_some]
            · rw [if_neg h2, if_neg h3, ad_some, ad_some, if_pos h1, if_pos (by omega)]
        · by_cases h2 : b < a
          · rw [if_neg h1, if_pos h2]
            by_cases h3 : b < c
            · rw [if_pos h3, ad_some, ad_some, if_pos h3, if_neg h1, if_pos h2]
            · by_cases h4 : c < b
              · rw [if_neg h3, if_pos h4, ad_some, ad_some, if_neg h3, if_pos h4, if_neg (by omega), if_pos (by omega)]
              · rw [if_neg h3, if_neg h4, ad_some, ad_some, if_neg h3, if_neg h4, if_neg h1, if_pos h2]
          · rw [if_neg h1, if_neg h2]
            have : a = b := by omega
            subst this
            by_cases h3 : a < c
            · rw [if_pos h3, ad_some, ad_some, if_pos h3, if_neg h1, if_neg h1]
            · by_cases h4 : c < a
              · rw [if_neg h3, if_pos h4, ad_some, ad_some, if_neg h3, if_pos h4, if_neg h3, if_pos h4]
              · rw [if_neg h3, if_neg h4, ad_some, ad_some, if_neg h3, if_neg h4, if_neg h1, if_neg h1, Int.add_assoc]
theorem sc_ad (c w : Int) (m m' : M) : sc c w (ad m m') = ad (sc c w m) (sc c w m') := by
  cases m with
  | none => rfl
  | some p =>
    cases m' with
    | none => rfl
    | some q =>
      obtain ⟨a, x⟩ := p
      obtain ⟨b, y⟩ := q
      show sc c w (ad (some (a, x)) (some (b, y))) = ad (some (c + a, w * x)) (some (c + b, w * y))
      rw [ad_some, ad_some]
      by_cases h1 : a < b
      · rw [if_pos h1, if_pos (by omega)]; rfl
      · by_cases h2 : b < a
        · rw [if_neg h1, if_pos h2, if_neg (by omega), if_pos (by omega)]; rfl
        · rw [if_neg h1, if_neg h2, if_neg (by omega), if_neg (by omega)]
          show some (c + a, w * (x + y)) = _
          rw [Int.mul_add]
theorem sc_sc (c w c' w' : Int) (m : M) : sc c w (sc c' w' m) = sc (c + c') (w * w') m := by
  cases m with
  | none => rfl
  | some p =>
    obtain ⟨a, x⟩ := p
    show some (c + (c' + a), w * (w' * x)) = some (c + c' + a, w * w' * x)
    rw [Int.add_assoc, Int.mul_assoc]
theorem sc_one (m : M) : sc 0 1 m = m := by
  cases m with
  | none => rfl
  | some p =>
    obtain ⟨a, x⟩ := p
    show some (0 + a, 1 * x) = _
    rw [Int.zero_add, Int.one_mul]
/-- two entries made one -/
theorem sc_two (c w c' w' : Int) (m : M) : ad (sc c w m) (sc c' w' m) = if c < c' then sc c w m else if c' < c then sc c' w' m else sc c (w + w') m := by
  cases m with
  | none =>
    show none = _
    split
    · rfl
    · split <;> rfl
  | some p =>
    obtain ⟨a, x⟩ := p
    show ad (some (c + a, w * x)) (some (c' + a, w' * x)) = _
    rw [ad_some]
    by_cases h1 : c < c'
    · rw [if_pos (by omega), if_pos h1]; rfl
    · by_cases h2 : c' < c
      · rw [if_neg (by omega), if_pos (by omega), if_neg h1, if_pos h2]; rfl
      · rw [if_neg (by omega), if_neg (by omega), if_neg h1, if_neg h2]
        show _ = some (c + a, (w + w') * x)
        rw [Int.add_mul]
def sm : List M → M
  | [] => none
  | m :: l => ad m (sm l)
theorem sm_app : ∀ (l r : List M), sm (l ++ r) = ad (sm l) (sm r)
  | [], _ => rfl
  | m :: l, r => by
    show ad m (sm (l ++ r)) = ad (ad m (sm l)) (sm r)
    rw [sm_app l r, ad_assoc]
theorem sm_perm {l r : List M} (h : l.Perm r) : sm l = sm r := by
  induction h with
  | nil => rfl
  | cons _ _ ih => show ad _ _ = ad _ _; rw [ih]
  | swap x y l =>
    show ad y (ad x (sm l)) = ad x (ad y (sm l))
    rw [← ad_assoc, ad_comm y x, ad_assoc]
  | trans _ _ h1 h2 => exact h1.trans h2
theorem sc_sm (c w : Int) : ∀ l : List M, sc c w (sm l) = sm (l.map (sc c w))
  | [] => rfl
  | m :: l => by
    show sc c w (ad m (sm l)) = ad (sc c w m) (sm (l.map (sc c w)))
    rw [sc_ad, sc_sm c w l]
/-- the least, and the sum of those that have it -/
theorem sm_some {α : Type} (a b : α → Int) : ∀ l : List α, l ≠ [] → sm (l.map fun x => some (a x, b x)) = some (minI (l.map a), ((l.filter fun x => a x == minI (l.map a)).map b).sum)
  | [], h => absurd rfl h
  | [x], _ => by
    show some (a x, b x) = some (a x, (([x].filter fun y => a y == a x).map b).sum)
    rw [List.filter_cons_of_pos (by simp)]
    simp
  | x :: y :: l, _ => by
    have ih := sm_some a b (y :: l) (by simp)
    show ad (some (a x, b x)) (sm ((y :: l).map fun x => some (a x, b x))) = _
    rw [ih, ad_some]
    have e : minI ((x :: y :: l).map a) = min (a x) (minI ((y :: l).map a)) := rfl
    generalize hm : minI ((y :: l).map a) = m at e
    have hle : ∀ z ∈ y :: l, m ≤ a z := fun z hz => by
      rw [← hm]
      exact (minI_mem (by simp)).2 _ (List.mem_map.mpr ⟨z, hz, rfl⟩)
    rw [e]
    have ec : ∀ v : Int, (x :: y :: l).filter (fun z => a z == v) = if (a x == v) = true then x :: (y :: l).filter (fun z => a z == v) else (y :: l).filter fun z => a z == v := fun v => List.filter_cons
    rw [ec]
    by_cases h1 : a x < m
    · rw [if_pos h1, Int.min_eq_left (by omega), if_pos (by simp)]
      have : (y :: l).filter (fun z => a z == a x) = [] := List.filter_eq_nil_iff.mpr fun z hz => by
        have := hle z hz
        simp; omega
      rw [this]; simp
    · by_cases h2 : m < a x
      · rw [if_neg h1, if_pos h2, Int.min_eq_right (by omega), if_neg (by simp; omega)]
      · have hx : a x = m := by omega
        rw [if_neg h1, if_neg h2, Int.min_eq_left (by omega), if_pos (by simp), List.map_cons, List.sum_cons, hx]
/-- a word: how many letters, cost, kind -/
structure Wd where
  len : Nat
  cost : Int
  kd : Nat
section
variable (W : Nat → List Wd) (J : Nat → Nat → Int) (e n : Nat)
/-- behind place n - d, and behind all later ones -/
def tb : Nat → List (Nat → M)
  | 0 => [fun k => some (J k e, 1)]
  | d + 1 => (fun k => sm ((W (n - (d + 1))).map fun w => sc (J k w.kd + w.cost) 1 (((tb d).getD (w.len - 1) fun _ => none) w.kd))) :: tb d
def B (i k : Nat) : M := ((tb W J e n (n - i)).headD fun _ => none) k
theorem tb_get : ∀ (d j : Nat), j ≤ d → (tb W J e n d).getD j (fun _ => none) = (tb W J e n (d - j)).headD fun _ => none
  | d, 0, _ => by
    cases d <;> rfl
  | 0, j + 1, h => absurd h (by omega)
  | d + 1, j + 1, h => by
    have := tb_get d j (by omega)
    rw [show d + 1 - (j + 1) = d - j by omega]
    rw [← this]; rfl
theorem B_end (k : Nat) : B W J e n n k = some (J k e, 1) := by
  unfold B
  rw [Nat.sub_self]; rfl
theorem tb_B {i j : Nat} (hi : i + j ≤ n) (k : Nat) : ((tb W J e n (n - i)).getD j fun _ => none) k = B W J e n (i + j) k := by
  rw [tb_get W J e n _ _ (by omega)]
  unfold B
  rw [show n - i - j = n - (i + j) by omega]
theorem B_step {i : Nat} (hi : i < n) (hW : ∀ w ∈ W i, 1 ≤ w.len ∧ i + w.len ≤ n) (k : Nat) : B W J e n i k = sm ((W i).map fun w => sc (J k w.kd + w.cost) 1 (B W J e n (i + w.len) w.kd)) := by
  have hd : n - i = (n - (i + 1)) + 1 := by omega
  unfold B
  rw [hd]
  show sm ((W (n - (n - (i + 1) + 1))).map fun w => sc (J k w.kd + w.cost) 1 (((tb W J e n (n - (i + 1))).getD (w.len - 1) fun _ => none) w.kd)) = _
  rw [show n - (n - (i + 1) + 1) = i by omega]
  congr 1
  refine List.map_congr_left fun w hw => ?_
  obtain ⟨h1, h2⟩ := hW w hw
  rw [tb_B W J e n (i := i + 1) (j := w.len - 1) (by omega)]
  rw [show i + 1 + (w.len - 1) = i + w.len by omega]
  rfl
end
/-- what goes on from each place on: any table with these steps -/
structure BOk (W : Nat → List Wd) (J : Nat → Nat → Int) (e n : Nat) (b : Nat → Nat → M) : Prop where
  fin : ∀ k, b n k = some (J k e, 1)
  st : ∀ i, i < n → ∀ k, b i k = sm ((W i).map fun w => sc (J k w.kd + w.cost) 1 (b (i + w.len) w.kd))
theorem bok_B {W : Nat → List Wd} {J : Nat → Nat → Int} {e n : Nat} (hW : ∀ i, i < n → ∀ w ∈ W i, 1 ≤ w.len ∧ i + w.len ≤ n) : BOk W J e n (B W J e n) := ⟨B_end W J e n, fun i hi k => B_step W J e n hi (hW i hi) k⟩
abbrev Es := List (Nat × Int × Int)
def tot (b : Nat → Nat → M) (q : Nat) (es : Es) : M := sm (es.map fun p => sc p.2.1 p.2.2 (b q p.1))
def upd (es : Es) (k : Nat) (h w : Int) : Es := match getP es k with
  | none => putP es k (h, w)
  | some (c0, w0) => if h < c0 then putP es k (h, w) else if h = c0 then putP es k (h, w0 + w) else es
theorem getP_split {α : Type} {k : Nat} {v : α} : ∀ {es : List (Nat × α)}, getP es k = some v → ∃ l r, es = l ++ (k, v) :: r ∧ k ∉ l.map (·.1)
  | [], h => by cases h
  | p :: es, h => by
    by_cases hp : p.1 = k
    · have h' : (((p :: es).find? fun q => decide (q.1 = k)).map (·.2)) = some v := h
      rw [List.find?_cons_of_pos (by simpa using hp)] at h'
      refine ⟨[], es, ?_, by simp⟩
      obtain ⟨p1, p2⟩ := p
      cases hp
      have : p2 = v := Option.some.inj h'
      rw [this]; rfl
    · have h' : (((p :: es).find? fun q => decide (q.1 = k)).map (·.2)) = some v := h
      rw [List.find?_cons_of_neg (by simpa using hp)] at h'
      obtain ⟨l, r, e, hl⟩ := getP_split (es := es) h'
      exact ⟨p :: l, r, by rw [e]; rfl, by
        rw [List.map_cons, List.mem_cons]
        exact fun z => z.elim (fun z => hp z.symm) hl⟩
theorem getP_no {α : Type} {k : Nat} {es : List (Nat × α)} (h : getP es k = none) : k ∉ es.map (·.1) := by
  intro hk
  obtain ⟨p, hp, e⟩ := List.mem_map.mp hk
  have h' : ((es.find? fun q => decide (q.1 = k)).map (·.2)) = none := h
  rw [Option.map_eq_none_iff, List.find?_eq_none] at h'
  exact h' p hp (by simpa using e)
theorem putP_new {α : Type} {k : Nat} {v : α} {es : List (Nat × α)} (h : k ∉ es.map (·.1)) : putP es k v = es ++ [(k, v)] := by
  unfold putP
  rw [if_neg]
  intro z
  obtain ⟨p, hp, e⟩ := List.any_eq_true.mp z
  exact h (List.mem_map.mpr ⟨p, hp, by simpa using e⟩)
theorem putP_old {α : Type} {k : Nat} {v v' : α} {l r : List (Nat × α)} (hl : k ∉ l.map (·.1)) (hr : k ∉ r.map (·.1)) : putP (l ++ (k, v) :: r) k v' = l ++ (k, v') :: r := by
  unfold putP
  rw [if_pos (by simp)]
  have same : ∀ {m : List (Nat × α)}, k ∉ m.map (·.1) → m.map (fun p => if p.1 = k then (p.1, v') else p) = m := fun {m} hm => by
    conv => rhs; rw [← List.map_id m]
    refine List.map_congr_left fun p hp => ?_
    rw [if_neg fun e => hm (List.mem_map.mpr ⟨p, hp, e⟩)]; rfl
  rw [List.map_append, List.map_cons, same hl, same hr, if_pos rfl]
theorem tot_app (b : Nat → Nat → M) (q : Nat) (l r : Es) : tot b q (l ++ r) = ad (tot b q l) (tot b q r) := by
  unfold tot
  rw [List.map_append, sm_app]
theorem tot_cons (b : Nat → Nat → M) (q : Nat) (p : Nat × Int × Int) (r : Es) : tot b q (p :: r) = ad (sc p.2.1 p.2.2 (b q p.1)) (tot b q r) := rfl
/-- one more way into a place -/
theorem tot_upd {b : Nat → Nat → M} {q : Nat} {es : Es} {k : Nat} {h w : Int} (nd : (es.map (·.1)).Nodup) : tot b q (upd es k h w) = ad (tot b q es) (sc h w (b q k)) := by
  unfold upd
  cases hg : getP es k with
  | none =>
    show tot b q (putP es k (h, w)) = _
    rw [putP_new (getP_no hg), tot_app, tot_cons]
    show ad _ (ad _ none) = _
    rw [ad_none]
  | some v =>
    obtain ⟨c0, w0⟩ := v
    obtain ⟨l, r, rfl, hl⟩ := getP_split hg
    have hr : k ∉ r.map (·.1) := by
      rw [List.map_append, List.map_cons] at nd
      exact (List.nodup_cons.mp (List.nodup_append.mp nd).2.1).1
    have key : ∀ v' : Int × Int, sc v'.1 v'.2 (b q k) = ad (sc c0 w0 (b q k)) (sc h w (b q k)) → tot b q (l ++ (k, v') :: r) = ad (tot b q (l ++ (k, c0, w0) :: r)) (sc h w (b q k)) := fun v' hv => by
      rw [tot_app, tot_app, tot_cons, tot_cons]
      show ad _ (ad (sc v'.1 v'.2 (b q k)) _) = ad (ad _ (ad (sc c0 w0 (b q k)) _)) _
      rw [hv, ad_assoc (tot b q l), ad_assoc (sc c0 w0 (b q k)) (tot b q r), ad_comm (tot b q r) (sc h w (b q k)), ← ad_assoc (sc c0 w0 (b q k))]
    show tot b q (if h < c0 then putP (l ++ (k, c0, w0) :: r) k (h, w) else if h = c0 then putP (l ++ (k, c0, w0) :: r) k (h, w0 + w) else l ++ (k, c0, w0) :: r) = _
    by_cases h1 : h < c0
    · rw [if_pos h1, putP_old hl hr]
      refine key (h, w) ?_
      rw [sc_two, if_neg (by omega), if_pos h1]
    · by_cases h2 : h = c0
      · rw [if_neg h1, if_pos h2, putP_old hl hr]
        refine key (h, w0 + w) ?_
        rw [sc_two, if_neg (by omega), if_neg (by omega), h2]
      · rw [if_neg h1, if_neg h2]
        refine key (c0, w0) ?_
        rw [sc_two, if_pos (by omega)]
theorem upd_nd {es : Es} {k : Nat} {h w : Int} (nd : (es.map (·.1)).Nodup) : ((upd es k h w).map (·.1)).Nodup := by
  unfold upd
  cases hg : getP es k with
  | none =>
    show ((putP es k (h, w)).map (·.1)).Nodup
    rw [putP_new (getP_no hg), List.map_append, List.nodup_append]
    refine ⟨nd, by simp, fun a ha b hb e => ?_⟩
    have hb' : b = k := by simpa using hb
    rw [e, hb'] at ha
    exact getP_no hg ha
  | some v =>
    obtain ⟨c0, w0⟩ := v
    obtain ⟨l, r, rfl, hl⟩ := getP_split hg
    have hr : k ∉ r.map (·.1) := by
      rw [List.map_append, List.map_cons] at nd
      exact (List.nodup_cons.mp (List.nodup_append.mp nd).2.1).1
    show ((if h < c0 then putP (l ++ (k, c0, w0) :: r) k (h, w) else if h = c0 then putP (l ++ (k, c0, w0) :: r) k (h, w0 + w) else l ++ (k, c0, w0) :: r).map (·.1)).Nodup
    split
    · rw [putP_old hl hr, List.map_append, List.map_cons]
      rw [List.map_append, List.map_cons] at nd
      exact nd
    · split
      · rw [putP_old hl hr, List.map_append, List.map_cons]
        rw [List.map_append, List.map_cons] at nd
        exact nd
      · exact nd
theorem upd_kd {es : Es} {k e : Nat} {h w : Int} (hk : k ≤ e) (a : ∀ p ∈ es, p.1 ≤ e) : ∀ p ∈ upd es k h w, p.1 ≤ e := fun p hp => by
  have put : ∀ v, p ∈ putP es k v → p.1 ≤ e := fun v hp => by
    unfold putP at hp
    split at hp
    · obtain ⟨q, hq, rfl⟩ := List.mem_map.mp hp
      split
      · exact a q hq
      · exact a q hq
    · rcases List.mem_append.mp hp with h | h
      · exact a p h
      · rw [List.mem_singleton.mp h]; exact hk
  unfold upd at hp
  cases hg : getP es k with
  | none => rw [hg] at hp; exact put _ hp
  | some v =>
    obtain ⟨c0, w0⟩ := v
    rw [hg] at hp
    simp only at hp
    split at hp
    · exact put _ hp
    · split at hp
      · exact put _ hp
      · exact a p hp
/-- all that is on its way -/
def totL (b : Nat → Nat → M) : Nat → List Es → M
  | _, [] => none
  | q, es :: r => ad (tot b q es) (totL b (q + 1) r)
theorem totL_set {b : Nat → Nat → M} {m : M} : ∀ {l : List Es} {q j : Nat} {es es' : Es}, l[j]? = some es → tot b (q + j) es' = ad (tot b (q + j) es) m → totL b q (l.set j es') = ad (totL b q l) m
  | [], _, _, _, _, h, _ => by simp at h
  | x :: l, q, 0, es, es', h, hm => by
    have : x = es := by simpa using h
    subst this
    show ad (tot b q es') _ = ad (ad (tot b q x) (totL b (q + 1) l)) m
    have hm' : tot b q es' = ad (tot b q x) m := hm
    rw [hm', ad_assoc, ad_comm m, ← ad_assoc]
  | x :: l, q, j + 1, es, es', h, hm => by
    have h' : l[j]? = some es := by simpa using h
    show ad (tot b q x) (totL b (q + 1) (l.set j es')) = _
    rw [totL_set (q := q + 1) (j := j) h' (by rw [show q + 1 + j = q + (j + 1) by omega]; exact hm)]
    show _ = ad (ad (tot b q x) (totL b (q + 1) l)) m
    rw [ad_assoc]
/-- not more entries than kinds -/
theorem nodup_le : ∀ {m : Nat} {l : List Nat}, l.Nodup → (∀ x ∈ l, x < m) → l.length ≤ m
  | 0, l, _, h => by
    cases l with
    | nil => exact Nat.le_refl _
    | cons x l => exact absurd (h x List.mem_cons_self) (by omega)
  | m + 1, l, nd, h => by
    have h1 := nodup_le (m := m) (l := l.filter fun x => decide (x < m)) (nd.filter _) fun x hx => by simpa using (List.mem_filter.mp hx).2
    have h2 : (l.filter fun x => !decide (x < m)).length ≤ 1 := by
      have hn : (l.filter fun x => !decide (x < m)).Nodup := nd.filter _
      have ha : ∀ x ∈ l.filter (fun x => !decide (x < m)), x = m := fun x hx => by
        obtain ⟨a, b⟩ := List.mem_filter.mp hx
        have := h x a
        simp at b
        omega
      generalize l.filter (fun x => !decide (x < m)) = r at hn ha
      match r, hn, ha with
      | [], _, _ => exact Nat.zero_le _
      | [_], _, _ => exact Nat.le_refl _
      | x :: y :: r, hn, ha =>
        rw [ha x (by simp), ha y (by simp)] at hn
        simp at hn
    have h3 := (List.filter_append_perm (fun x => decide (x < m)) l).length_eq
    rw [List.length_append] at h3
    omega
end Sr
set_option Elab.async false
set_option linter.all false
set_option autoImplicit false
set_option maxRecDepth 100000
set_option maxHeartbeats 4000000
namespace Dl
open PySem PySem.Spec PyProof.Rows L2
end Dl
set_option Elab.async false
set_option linter.all false
set_option autoImplicit false
set_option maxRecDepth 100000
set_option maxHeartbeats 4000000
namespace Fb
open PySem PySem.Spec PyProof.Rows L2 Dl Bk
open Fa (strL ifD ifB fapp strL_length strL_cps)
def stRow (ws : List D) (edge : Int) (t : List Nat) (i : Nat) : List D := rawD (t.getD i 0) edge :: ws.filter (standsAt t i)
def rowAt (ws : List D) (edge : Int) (t : List Nat) (i : Nat) : D := .lst (rawD (t.getD i 0) edge :: ws.filter (standsAt t i))
def sp_standing : SpD := fun ds s Q _ => ∃ (ws rows : List D) (z : Str) (K : Int), ds = [.tup [.lst ws, .lst rows], .str z] ∧ (∀ w ∈ ws, IsW K w) ∧ ws.length ≤ 1000 ∧ rows.length ≤ 1000 ∧ z.length ≤ 100 ∧
  Q (.lst ((List.range z.length).map (rowAt ws ((rows.length : Int) - 1) z.cps.toList))) (s ++ [none])
theorem mono_standing : MonoSp sp_standing := fun _ _ _ _ _ _ f _ ⟨ws, rows, z, K, h1, h2, h3, h4, h5, h⟩ => ⟨ws, rows, z, K, h1, h2, h3, h4, h5, f _ _ h⟩
theorem len_standing : ∀ ds s Q E, sp_standing ds s Q E → ds.length = ["book", "reading"].length := fun _ _ _ _ ⟨_, _, _, _, h, _⟩ => by rw [h]; rfl
def b_standing : SD := (dSeq (dAsg (dVar 0) (gTs [2, 3]))
  (dSeq (dAsg (dNew dNil) (gN 4))
  (dSeq (dFor (iEn (dCons (dVar 1) dNil)) (gTs [5, 6]) (dSeq (dAsg (dLc (iW (dVar 2)) (CT.g (.one 8)) (dTest (dBin (oF eqF) (dSl (dVar 1) (dP (dVar 5)) (dP (dBin (oF addF) (dVar 5) (dCB lenF (dCons (dBin (oF idxF) (dVar 8) (dC (.int 0))) dNil))))) (dBin (oF idxF) (dVar 8) (dC (.int 0))))) (dVar 8) [8]) (gN 7))
  (dDrop (dMt fAppend (dVar 4) (dCons (dBin (oF addF) (dLst (dCons (dTup (dCons (dVar 6) (dCons (dVar 6) (dCons (dC (.int 1000)) (dCons (dBin (oF subF) (dCB lenF (dCons (dVar 3) dNil)) (dC (.int 1))) dNil))))) dNil)) (dVar 7)) dNil)))))
  (dRet (dFrz (dVar 4))))))
section
variable (ds : List D) (s : Sto) (Q : D → Sto → Prop) (E : XD)
theorem pf_standing (h : sp_standing ds s Q E) : b_standing (endsOf Q) (envD ["book", "reading", "words", "joins", "found", "place", "letter", "some", "word"] ds) s := by
  obtain ⟨ws, rows, z, K, rfl, hW, hwl, hrl, hz, q⟩ := h
  refine ⟨_, rfl, _, rfl, rfl, Nat.zero_le _, ?_⟩
  refine ⟨_, rfl, z, rfl, ?_⟩
  refine forD_run (fun rest env s' => ∃ (i : Nat) (a b c : Option D), rest = (placesD z).drop i ∧ i ≤ z.length ∧ env = [some (.tup [.lst ws, .lst rows]), some (.str z), some (.lst ws), some (.lst rows), some (.ref s.length), a, b, c, none] ∧
    s' = s ++ [some (.lst ((List.range i).map (rowAt ws ((rows.length : Int) - 1) z.cps.toList)))]) ?_ ?_ ?_
  · rintro d rest env s' ⟨i, a, b, c, e, hi, rfl, rfl⟩ N hN
    have hlen : (placesD z).length = z.cps.size := by simp [placesD]
    have hi2 : i < z.cps.size := by
      have := congrArg List.length e
      rw [List.length_drop, hlen, List.length_cons] at this
      omega
    have hd : (placesD z)[i]? = some (.tup [.int (i : Nat), .str ⟨#[z.cps.getD i 0]⟩]) := by
      simp [placesD, hi2]
    rw [drop_cons hd] at e
    cases e
    refine ⟨trivial, _, rfl, rfl, ?_⟩
    refine ⟨_, rfl, _, _, isW_lst, le_line (by omega), ?_⟩
    refine lcD_pure (standsAt z.cps.toList i) id trivial (fun w hw k1 k0 h1 h0 => ?_) ?_
    · obtain ⟨r, wr, cc, kk, rfl, ok⟩ := hW w hw
      refine ⟨_, rfl, _, rfl, _, rfl, _, rfl, _, rfl, _, rfl, _, rfl, _, rfl, _, rfl, _, rfl, _, rfl, _, rfl, _, eq_ss, _, rfl, ?_⟩
      have e : ((⟨(cutD z.cps.toList (some (i : Nat)) (some ((i : Nat) + (r.length : Int)))).toArray⟩ : Str) == r) = standsAt z.cps.toList i (.tup [.str r, .str wr, .int cc, .int kk]) := by
        rw [cutD_mid (by omega) (by omega)]
        have e1 : ((i : Nat) + (r.length : Int)).toNat = i + r.cps.toList.length := by simp [Str.length]; omega
        have e2 : ((i : Nat) : Int).toNat = i := by omega
        rw [e1, e2]
        show _ = decide ((z.cps.toList.take (i + r.cps.toList.length)).drop i = r.cps.toList)
        by_cases h : (z.cps.toList.take (i + r.cps.toList.length)).drop i = r.cps.toList
        · rw [decide_eq_true h, h]; simp
        · rw [decide_eq_false h]
          refine beq_false_of_ne fun y => h ?_
          have := congrArg (fun (x : Str) => x.cps.toList) y
          simpa using this
      show if (_ == r) = true then _ else _
      rw [e]
      refine Fa.ifB (fun ht => ⟨_, rfl, h1 ht⟩) fun ht => h0 ht
    · have hfl : (ws.filter (standsAt z.cps.toList i)).length ≤ ws.length := List.length_filter_le ..
      rw [List.map_id]
      have hil : ((List.range i).map (rowAt ws ((rows.length : Int) - 1) z.cps.toList)).length < sizeLine := by
        rw [List.length_map, List.length_range, sizeLine_eq]
        have : z.length = z.cps.size := rfl
        omega
      refine ⟨_, rfl, _, _, rfl, app_last, _, rfl, _, rfl, _, rfl, _, rfl, _, rfl, Dl.ll, Dl.ll, _, rfl, _, addl (le_line (by show 1 + _ ≤ _; omega)), _, _, _, app_last, fapp hil, ?_⟩
      refine hN _ _ ⟨i + 1, _, _, _, rfl, hi2, rfl, ?_⟩
      rw [List.range_succ, List.map_append]
      simp [rowAt, rawD]
  · rintro env s' ⟨i, a, b, c, e, hi, rfl, rfl⟩
    have hlen : (placesD z).length = z.length := by simp [placesD, Str.length]
    have : i = z.length := by
      have := congrArg List.length e
      rw [List.length_drop, hlen] at this
      simp at this; omega
    subst this
    refine ⟨trivial, _, rfl, _, _, rfl, app_last, ?_⟩
    have e2 : (s ++ [some (MO.lst ((List.range z.length).map (rowAt ws ((rows.length : Int) - 1) z.cps.toList)))]).set s.length none = s ++ [none] := by simp
    rw [e2]
    exact q
  · exact ⟨0, none, none, none, rfl, Nat.zero_le _, rfl, rfl⟩
end
theorem sum_l (l : List Int) {s : Sto} : sumF s [.lst (l.map D.int)] = some (.int l.sum) := by
  show (match seqL s (.lst (l.map D.int)) with | some ds => (intsOf ds).map fun (bs : List Int) => D.int bs.sum | none => none) = _
  rw [seqL_lst]
  show (intsOf (l.map D.int)).map _ = _
  rw [intsOf_map]
  rfl
def toWd (x : D) : Sr.Wd := ⟨(rdOf x).length, cs x, kd x⟩
abbrev Wf (ws rows : List D) (z : Str) (i : Nat) : List Sr.Wd := (stRow ws ((rows.length : Int) - 1) z.cps.toList i).map toWd
abbrev bF (ws rows : List D) (z : Str) : Nat → Nat → Sr.M := Sr.B (Wf ws rows z) (jn rows) (rows.length - 1) z.length
def rF (ws rows : List D) (z : Str) (i k : Nat) : Int := ((bF ws rows z i k).getD (0, 0)).1
def nF (ws rows : List D) (z : Str) (i k : Nat) : Int := ((bF ws rows z i k).getD (0, 0)).2
/-- what goes on with this word costs -/
def aF (ws rows : List D) (z : Str) (i k : Nat) (x : D) : Int := jn rows k (kd x) + (cs x + rF ws rows z (i + (rdOf x).length) (kd x))
theorem stRow_shape {m : Nat} {ws rows : List D} {z : Str} {i : Nat} (hB : BookOk m ws rows) (hi : i < z.length) {x : D} (hx : x ∈ stRow ws ((rows.length : Int) - 1) z.cps.toList i) :
    ∃ r wr : Str, x = .tup [.str r, .str wr, .int (cs x), .int ((kd x : Nat) : Int)] ∧ (rdOf x).length = r.length ∧ 1 ≤ r.length ∧ i + r.length ≤ z.length ∧ kd x < rows.length := by
  have hr0 : 1 ≤ rows.length := List.length_pos_iff.mpr hB.r0
  rcases List.mem_cons.mp hx with rfl | hx
  · refine ⟨⟨#[z.cps.toList.getD i 0]⟩, ⟨#[z.cps.toList.getD i 0]⟩, ?_, rfl, Nat.le_refl 1, hi, ?_⟩
    · show D.tup [.str _, .str _, .int 1000, .int ((rows.length : Int) - 1)] = .tup [.str _, .str _, .int 1000, .int (((((rows.length : Int) - 1)).toNat : Nat) : Int)]
      have e : (((((rows.length : Int) - 1)).toNat : Nat) : Int) = (rows.length : Int) - 1 := by omega
      rw [e]
    · show ((rows.length : Int) - 1).toNat < _
      omega
  · obtain ⟨hw, hs⟩ := List.mem_filter.mp hx
    obtain ⟨r, wr, c, k, rfl, ok⟩ := hB.ww x hw
    have h1 : (rdOf (.tup [.str r, .str wr, .int c, .int k])).length = r.length := cps_len r
    have h2 := (stands_len hs (by rw [h1]; exact ok.r2)).1
    rw [h1, cps_len] at h2
    have := ok.k1; have := ok.k2
    refine ⟨r, wr, ?_, h1, ok.r2, h2, ?_⟩
    · show D.tup [.str r, .str wr, .int c, .int k] = .tup [.str r, .str wr, .int c, .int ((k.toNat : Nat) : Int)]
      have e : ((k.toNat : Nat) : Int) = k := by omega
      rw [e]
    · show k.toNat < _
      omega
theorem wf_ok {m : Nat} {ws rows : List D} {z : Str} (hB : BookOk m ws rows) : ∀ i, i < z.length → ∀ w ∈ Wf ws rows z i, 1 ≤ w.len ∧ i + w.len ≤ z.length := fun i hi w hw => by
  obtain ⟨x, hx, rfl⟩ := List.mem_map.mp hw
  obtain ⟨r, wr, _, h1, h2, h3, _⟩ := stRow_shape hB hi hx
  show 1 ≤ (rdOf x).length ∧ i + (rdOf x).length ≤ _
  omega
theorem bF_ok {m : Nat} {ws rows : List D} {z : Str} (hB : BookOk m ws rows) : Sr.BOk (Wf ws rows z) (jn rows) (rows.length - 1) z.length (bF ws rows z) := Sr.bok_B (wf_ok hB)
theorem bF_eq {m : Nat} {ws rows : List D} {z : Str} (hB : BookOk m ws rows) : ∀ d i, z.length - i = d → i ≤ z.length → ∀ k, bF ws rows z i k = some (rF ws rows z i k, nF ws rows z i k) ∧
    (i < z.length → rF ws rows z i k = minI ((stRow ws ((rows.length : Int) - 1) z.cps.toList i).map (aF ws rows z i k)) ∧ nF ws rows z i k = (((stRow ws ((rows.length : Int) - 1) z.cps.toList i).filter fun x => aF ws rows z i k x == minI ((stRow ws ((rows.length : Int) - 1) z.cps.toList i).map (aF ws rows z i k))).map fun x => nF ws rows z (i + (rdOf x).length) (kd x)).sum) := by
  intro d
  induction d using Nat.strongRecOn with
  | _ d ih =>
  intro i hd hi k
  have self : ∀ p, bF ws rows z i k = some p → bF ws rows z i k = some (rF ws rows z i k, nF ws rows z i k) ∧ rF ws rows z i k = p.1 ∧ nF ws rows z i k = p.2 := fun p hp => by
    unfold rF nF
    rw [hp]
    exact ⟨rfl, rfl, rfl⟩
  rcases Nat.lt_or_ge i z.length with hlt | hge
  · have hst := (bF_ok hB).st i hlt k
    rw [List.map_map] at hst
    have e : (stRow ws ((rows.length : Int) - 1) z.cps.toList i).map ((fun w : Sr.Wd => Sr.sc (jn rows k w.kd + w.cost) 1 (bF ws rows z (i + w.len) w.kd)) ∘ toWd) = (stRow ws ((rows.length : Int) - 1) z.cps.toList i).map fun x => some (aF ws rows z i k x, nF ws rows z (i + (rdOf x).length) (kd x)) := List.map_congr_left fun x hx => by
      obtain ⟨r, wr, _, h1, h2, h3, _⟩ := stRow_shape hB hlt hx
      show Sr.sc (jn rows k (kd x) + cs x) 1 (bF ws rows z (i + (rdOf x).length) (kd x)) = _
      rw [(ih (z.length - (i + (rdOf x).length)) (by omega) _ rfl (by omega) (kd x)).1]
      show some (jn rows k (kd x) + cs x + rF ws rows z (i + (rdOf x).length) (kd x), 1 * nF ws rows z (i + (rdOf x).length) (kd x)) = _
      rw [Int.one_mul]
      unfold aF
      rw [Int.add_assoc]
    rw [e, Sr.sm_some _ _ _ (by unfold stRow; simp)] at hst
    obtain ⟨h1, h2, h3⟩ := self _ hst
    exact ⟨h1, fun _ => ⟨h2, h3⟩⟩
  · have : i = z.length := by omega
    subst this
    obtain ⟨h1, h2, h3⟩ := self _ ((bF_ok hB).fin k)
    exact ⟨h1, fun h => absurd h (by omega)⟩
theorem rF_end {m : Nat} {ws rows : List D} {z : Str} (hB : BookOk m ws rows) (k : Nat) : rF ws rows z z.length k = jn rows k (rows.length - 1) ∧ nF ws rows z z.length k = 1 := by
  unfold rF nF
  rw [(bF_ok hB).fin k]
  exact ⟨rfl, rfl⟩
theorem rF_st {m : Nat} {ws rows : List D} {z : Str} (hB : BookOk m ws rows) {i : Nat} (hi : i < z.length) (k : Nat) : rF ws rows z i k = minI ((stRow ws ((rows.length : Int) - 1) z.cps.toList i).map (aF ws rows z i k)) ∧ nF ws rows z i k = (((stRow ws ((rows.length : Int) - 1) z.cps.toList i).filter fun x => aF ws rows z i k x == minI ((stRow ws ((rows.length : Int) - 1) z.cps.toList i).map (aF ws rows z i k))).map fun x => nF ws rows z (i + (rdOf x).length) (kd x)).sum := (bF_eq hB _ i rfl (Nat.le_of_lt hi) k).2 hi
end Fb
set_option Elab.async false
set_option linter.all false
set_option autoImplicit false
set_option maxRecDepth 100000
set_option maxHeartbeats 4000000
namespace Fa
open PySem PySem.Spec PyProof.Rows L2 Dl Bk
theorem StT.len {b : Int} {tl s : Sto} (h : StT b tl s) : s.length = tl.length + 2 := by
  obtain ⟨xs, st, n, rfl, _⟩ := h; rfl
theorem StT.app {b : Int} {tl s : Sto} (h : StT b tl s) {o : Option MO} : StT b (tl ++ [o]) (s ++ [o]) := by
  obtain ⟨xs, st, n, rfl, r⟩ := h; exact ⟨xs, st, n, rfl, r⟩
theorem StT.get {b : Int} {tl s : Sto} (h : StT b tl s) (i : Nat) : s[i + 2]? = tl[i]? := by
  obtain ⟨xs, st, n, rfl, r⟩ := h; rfl
theorem StT.set {b : Int} {tl s : Sto} (h : StT b tl s) (i : Nat) (o : Option MO) : StT b (tl.set i o) (s.set (i + 2) o) := by
  obtain ⟨xs, st, n, rfl, r⟩ := h; exact ⟨xs, st, n, rfl, r⟩
theorem get_last {tl : Sto} {o : Option MO} : (tl ++ [o])[tl.length]? = some o := by simp
theorem set_last {tl : Sto} {o o' : Option MO} : (tl ++ [o]).set tl.length o' = tl ++ [o'] := by simp
theorem get_two {tl : Sto} {o p : Option MO} : (tl ++ [o, p])[tl.length + 1]? = some p := by simp
theorem get_two0 {tl : Sto} {o p : Option MO} : (tl ++ [o, p])[tl.length]? = some o := by simp
theorem set_two {tl : Sto} {o p p' : Option MO} : (tl ++ [o, p]).set (tl.length + 1) p' = tl ++ [o, p'] := by
  rw [List.set_append_right _ _ (by omega)]
  simp
theorem set_two0 {tl : Sto} {o p p' : Option MO} : (tl ++ [o, p]).set tl.length p' = tl ++ [p', p] := by simp
/-- a dict of words, by their pairs -/
structure WDict (K : Int) (es : List (List Key × D)) : Prop where
  ok : ∀ p ∈ es, IsW K p.2 ∧ pairK p.2 = p.1
  nd : (es.map (·.1)).Nodup
theorem WDict.put {K : Int} {es : List (List Key × D)} {v : D} (h : WDict K es) (hv : IsW K v) : WDict K (putP es (pairK v) v) := by
  unfold putP
  split
  · refine ⟨fun p hp => ?_, ?_⟩
    · obtain ⟨q, hq, rfl⟩ := List.mem_map.mp hp
      by_cases e : q.1 = pairK v
      · rw [if_pos e]; exact ⟨hv, e.symm⟩
      · rw [if_neg e]; exact h.ok q hq
    · have : (es.map fun p => if p.1 = pairK v then (p.1, v) else p).map (·.1) = es.map (·.1) := by
        rw [List.map_map]
        refine List.map_congr_left fun p _ => ?_
        show (if p.1 = pairK v then (p.1, v) else p).1 = p.1
        split <;> rfl
      rw [this]; exact h.nd
  · rename_i hn
    refine ⟨fun p hp => ?_, ?_⟩
    · rcases List.mem_append.mp hp with hp | hp
      · exact h.ok p hp
      · rw [List.mem_singleton.mp hp]; exact ⟨hv, rfl⟩
    · rw [List.map_append, List.nodup_append]
      refine ⟨h.nd, by simp, fun a ha c hc e => ?_⟩
      obtain ⟨p, hp, rfl⟩ := List.mem_map.mp ha
      have hc' : c = pairK v := by simpa using hc
      exact hn (List.any_eq_true.mpr ⟨p, hp, decide_eq_true (e.trans hc')⟩)
theorem WDict.keys {K : Int} {es : List (List Key × D)} (h : WDict K es) : (es.map (·.2)).map pairK = es.map (·.1) := by
  rw [List.map_map]
  exact List.map_congr_left fun p hp => (h.ok p hp).2
theorem sgn_sub {z r : Str} {l : List Nat} (hz : sgnIn r z = true) (h : ∀ c ∈ l, c ∈ z.cps.toList) : sgnIn r (strL l) = true := by
  unfold sgnIn at hz ⊢
  rw [List.all_eq_true] at hz ⊢
  intro c hc
  exact hz c (h c hc)
def sp__law_book : SpD := fun ds s Q _ => ∃ (b : Int) (tl : Sto) (most : Int), ds = [.ref 1, .int most] ∧ StT b tl s ∧ b ≤ 90000000 ∧ 0 ≤ most ∧ most ≤ 200 ∧
  ∀ ws rows u s', BookOk most.toNat ws rows → rows.length ≤ 9 → StT (b + 500000) (tl ++ u) s' → Q (.tup [.lst ws, .lst rows]) s'
def b__law_book : SD := (dSeq (dAsg (dBin (oF idxF) (dLst (dCons (dC (.str "ab")) (dCons (dC (.str "a")) (dCons (dC (.str "abcdefghijklmnopqrstuvwxyz")) dNil)))) (dCall sp__law_dip [] (dCons (dVar 0) (dCons (dC (.int 3)) dNil)))) (gN 2))
  (dSeq (dAsg (dBin (oF idxF) (dLst (dCons (dC (.str "AB")) (dCons (dC (.str "ABCDEFGHIJKLMNOPQRSTUVWXYZ")) dNil))) (dCall sp__law_dip [] (dCons (dVar 0) (dCons (dC (.int 2)) dNil)))) (gN 3))
  (dSeq (dAsg (dBin (oF idxF) (dLst (dCons (dC (.int 2)) (dCons (dC (.int 4)) (dCons (dC (.int 40)) dNil)))) (dCall sp__law_dip [] (dCons (dVar 0) (dCons (dC (.int 3)) dNil)))) (gN 4))
  (dSeq (dAsg (dBin (oF idxF) (dLst (dCons (dC (.int 1)) (dCons (dC (.int 2)) (dCons (dC (.int 3)) (dCons (dC (.int 8)) (dCons (dC (.int 0)) dNil)))))) (dCall sp__law_dip [] (dCons (dVar 0) (dCons (dC (.int 5)) dNil)))) (gN 5))
  (dSeq (dAsg (dNew dNil) (gN 6))
  (dSeq (dFor (iR1 (dCons (dBin (oF addF) (dVar 5) (dC (.int 1))) dNil)) (gN 7) (dDrop (dMt fAppend (dVar 6) (dCons (dLc (iR1 (dCons (dBin (oF addF) (dVar 5) (dC (.int 1))) dNil)) (CT.g (.one 10)) dYes (dCall sp__law_cost [] (dCons (dVar 0) dNil)) [10]) dNil))))
  (dSeq (dAsg dDNewT (gN 8))
  (dSeq (dFor (iR1 (dCons (dBin oMul (dCall sp__law_dip [] (dCons (dVar 0) (dCons (dBin (oF addF) (dVar 1) (dC (.int 1))) dNil))) (dCB intF (dCons (dBin (oF gtBF) (dVar 5) (dC (.int 0))) dNil))) dNil)) (gN 7) (dSeq (dAsg (dTup (dCons (dCall sp__law_text [] (dCons (dVar 0) (dCons (dVar 2) (dCons (dVar 4) dNil)))) (dCons (dCall sp__law_text [] (dCons (dVar 0) (dCons (dVar 3) (dCons (dC (.int 12)) dNil)))) dNil))) (gN 9))
  (dDPut (dVar 8) (dVar 9) (dBin (oF addF) (dVar 9) (dTup (dCons (dCall sp__law_cost [] (dCons (dVar 0) dNil)) (dCons (dCall sp__law_dip [] (dCons (dVar 0) (dCons (dVar 5) dNil))) dNil)))))))
  (dRet (dTup (dCons (dListV (dVar 8)) (dCons (dFrz (dVar 6)) dNil))))))))))))
theorem mono__law_book : MonoSp sp__law_book := fun _ _ _ _ _ _ f _ ⟨b, tl, m, h1, h2, h3, h4, h5, h⟩ => ⟨b, tl, m, h1, h2, h3, h4, h5, fun ws rows u s' a1 a2 a3 => f _ _ (h ws rows u s' a1 a2 a3)⟩
theorem len__law_book : ∀ ds s Q E, sp__law_book ds s Q E → ds.length = ["pot", "most"].length := fun _ _ _ _ ⟨_, _, _, h, _⟩ => by rw [h]; rfl
section
variable (ds : List D) (s : Sto) (Q : D → Sto → Prop) (E : XD)
theorem pf__law_book (h : sp__law_book ds s Q E) : b__law_book (endsOf Q) (envD ["pot", "most", "small", "large", "long", "kinds", "joins", "k", "words", "pair", "j"] ds) s := by
  obtain ⟨b, tl, most, rfl, S, hb, m0, m1, q⟩ := h
  have hr : ∀ a n, (rangeD a n).length = n := fun a n => by simp [rangeD]
  refine ⟨Dl.ll, _, rfl, b, tl, 3, rfl, S, by omega, by decide, by decide, fun i1 s1 a1 b1 S1 => ?_⟩
  obtain ⟨x, hx, hm⟩ := three (a := D.str "ab") (b := D.str "a") (c := D.str "abcdefghijklmnopqrstuvwxyz") a1 b1
  obtain ⟨small, rfl, hs⟩ : ∃ z : Str, x = .str z ∧ 1 ≤ z.length ∧ z.length ≤ 26 ∧ sgnIn az z = true := by
    rcases hm with rfl | rfl | rfl
    · exact ⟨_, rfl, by decide +kernel⟩
    · exact ⟨_, rfl, by decide +kernel⟩
    · exact ⟨_, rfl, by decide +kernel⟩
  refine ⟨_, hx, Dl.ll, _, rfl, _, tl, 2, rfl, S1, by omega, by decide, by decide, fun i2 s2 a2 b2 S2 => ?_⟩
  obtain ⟨x, hx, hm⟩ := atI_mem (xs := [D.str "AB", D.str "ABCDEFGHIJKLMNOPQRSTUVWXYZ"]) a2 (by simpa using b2)
  obtain ⟨large, rfl, hL⟩ : ∃ z : Str, x = .str z ∧ 1 ≤ z.length ∧ z.length ≤ 26 ∧ sgnIn AZ z = true := by
    rcases (by simpa using hm : x = D.str "AB" ∨ x = D.str "ABCDEFGHIJKLMNOPQRSTUVWXYZ") with rfl | rfl
    · exact ⟨_, rfl, by decide +kernel⟩
    · exact ⟨_, rfl, by decide +kernel⟩
  refine ⟨_, hx, Dl.ll, _, rfl, _, tl, 3, rfl, S2, by omega, by decide, by decide, fun i3 s3 a3 b3 S3 => ?_⟩
  obtain ⟨x, hx, hm⟩ := three (a := D.int 2) (b := D.int 4) (c := D.int 40) a3 b3
  obtain ⟨long, rfl, hg1, hg2⟩ : ∃ z : Int, x = .int z ∧ 1 ≤ z ∧ z ≤ 40 := by
    rcases hm with rfl | rfl | rfl <;> exact ⟨_, rfl, by decide, by decide⟩
  refine ⟨_, hx, Dl.ll, _, rfl, _, tl, 5, rfl, S3, by omega, by decide, by decide, fun i4 s4 a4 b4 S4 => ?_⟩
  obtain ⟨x, hx, hm⟩ := atI_mem (xs := [D.int 1, .int 2, .int 3, .int 8, .int 0]) a4 (by simpa using b4)
  obtain ⟨kinds, rfl, k0, k1⟩ : ∃ z : Int, x = .int z ∧ 0 ≤ z ∧ z ≤ 8 := by
    rcases (by simpa using hm : x = D.int 1 ∨ x = .int 2 ∨ x = .int 3 ∨ x = .int 8 ∨ x = .int 0) with rfl | rfl | rfl | rfl | rfl <;> exact ⟨_, rfl, by decide, by decide⟩
  refine ⟨_, hx, Nat.zero_le _, ?_⟩
  have S5 := S4.app (o := some (.lst []))
  refine ⟨_, rfl, _, rfl, _, rfl, by omega, by omega, ?_⟩
  have L4 := S4.len
  refine forD_run (fun rest env s2 => ∃ (rows : List D) (k : Option D), env = [some (.ref 1), some (.int most), some (.str small), some (.str large), some (.int long), some (.int kinds), some (.ref (tl.length + 2)), k, none, none, none] ∧
      (∀ r ∈ rows, IsRow (kinds + 1).toNat r) ∧ rows.length + rest.length = (kinds + 1).toNat ∧ StT (b + 2000 - 100 * rest.length) (tl ++ [some (.lst rows)]) s2) ?_ ?_ ?_
  · rintro d rest env s2 ⟨rows, k, rfl, hR, hl2, S8⟩ N hN
    rw [List.length_cons] at hl2 S8
    refine ⟨trivial, ?_⟩
    have g8 := (S8.get tl.length).trans get_last
    refine ⟨_, rfl, _, _, rfl, g8, ?_⟩
    refine ⟨_, rfl, _, rfl, _, rfl, by omega, by omega, le_line (by rw [hr]; omega), ?_⟩
    refine lcD_run (fun rs acc s3 => ∃ js : List Int, acc = js.map .int ∧ rs.length + js.length = (kinds + 1).toNat ∧ (∀ j ∈ js, 0 ≤ j ∧ j ≤ 1000000000000) ∧ StT (b + 2000 - 100 * ((rest.length + 1 : Nat) : Int) + 10 * js.length) (tl ++ [some (.lst rows)]) s3) ?_ (acc := []) ⟨[], rfl, by rw [hr]; simp, (fun _ h => nomatch h), S8.up (by simp)⟩ ?_
    · rintro e rs acc s3 ⟨js, rfl, hj, hjs, S9⟩ k1 k0 h1 h0
      rw [List.length_cons] at hj
      refine ⟨trivial, ?_⟩
      refine ⟨_, rfl, _, _, rfl, S9, by omega, fun v s11 v0 v1 S11 => ?_⟩
      refine h1 _ _ ⟨js ++ [v], by simp, by simp; omega, fun u hu => ?_, S11.up (by push_cast; simp; omega)⟩
      rcases List.mem_append.mp hu with h | h
      · exact hjs u h
      · rw [List.mem_singleton.mp h]; exact ⟨v0, by omega⟩
    · rintro ys s3 ⟨js, hys, hj, hjs, S9⟩
      rw [List.nil_append] at hys
      subst hys
      have hj' : js.length = (kinds + 1).toNat := by simpa using hj
      have g9 := (S9.get tl.length).trans get_last
      refine ⟨trivial, _, _, _, g9, fapp (Nat.lt_of_lt_of_le (by omega : rows.length < 1000) (le_line (by decide))), ?_⟩
      have S10 := S9.set tl.length (some (.lst (rows ++ [.lst (js.map .int)])))
      rw [set_last] at S10
      refine hN _ _ ⟨rows ++ [.lst (js.map .int)], _, rfl, fun r hr => ?_, by rw [List.length_append, List.length_singleton]; omega, S10.up (by push_cast; omega)⟩
      rcases List.mem_append.mp hr with h | h
      · exact hR r h
      · rw [List.mem_singleton.mp h]; exact ⟨js, rfl, hj', hjs⟩
  · rintro env s2 ⟨rows, k, rfl, hR, hl2, S8⟩
    rw [List.length_nil] at hl2 S8
    refine ⟨trivial, ?_⟩
    have S9 := S8.app (o := some (DV.t []).mo)
    rw [List.append_assoc] at S9
    have L8 := S8.len
    rw [List.length_append, List.length_singleton] at L8
    refine ⟨_, rfl, _, rfl, _, rfl, _, _, _, rfl, S9, by omega, by omega, by omega, fun i6 s6 a6 b6 S6 => ?_⟩
    obtain ⟨jb, hjb, j0, j1⟩ : ∃ jb : Int, b2n (decide (0 < kinds)) = jb ∧ 0 ≤ jb ∧ jb ≤ 1 := by
      refine ⟨_, rfl, ?_, ?_⟩
      · cases decide (0 < kinds) <;> decide
      · cases decide (0 < kinds) <;> decide
    have hj1 : 0 < i6 * jb → 0 < kinds := fun h => by
      by_cases hk : 0 < kinds
      · exact hk
      · rw [decide_eq_false hk] at hjb
        have : jb = 0 := hjb.symm
        subst this; simp at h
    have hj2 : i6 * jb ≤ i6 := by
      have : i6 * jb ≤ i6 * 1 := Int.mul_le_mul_of_nonneg_left j1 a6
      omega
    have hj3 : 0 ≤ i6 * jb := Int.mul_nonneg a6 j0
    refine ⟨_, rfl, _, rfl, _, rfl, .inl ⟨_, _, rfl, rfl, IntMulOk.of_right (by rw [hjb]; exact intBits_le_iff.mpr (by omega)), i6 * b2n (decide (0 < kinds)), rfl, by rw [hjb]; omega, by rw [hjb]; omega, ?_⟩⟩
    rw [hjb]
    generalize i6 * jb = n at hj1 hj2 hj3
    have hrl : rows.length = (kinds + 1).toNat := by omega
    refine forD_run (fun rest env s' => ∃ (es : List (List Key × D)) (k pr : Option D), env = [some (.ref 1), some (.int most), some (.str small), some (.str large), some (.int long), some (.int kinds), some (.ref (tl.length + 2)), k, some (.ref (tl.length + 3)), pr, none] ∧
      WDict kinds es ∧ ((es.length + rest.length : Nat) : Int) ≤ n ∧ StT (b + 3000 + 2100 * (n - rest.length)) (tl ++ [some (.lst rows), some (DV.t es).mo]) s') ?_ ?_ ?_
    · rintro d rest env s' ⟨es, k, pr, rfl, hW, hl, S7⟩ N hN
      rw [List.length_cons] at hl S7
      have hk : 0 < kinds := hj1 (by omega)
      refine ⟨trivial, ?_⟩
      refine ⟨_, rfl, _, rfl, _, rfl, _, _, small, long, rfl, S7, by omega, hs.1, by omega, hg1, by omega, fun l1 s8 c1 c2 c3 S8 => ?_⟩
      refine ⟨_, rfl, _, rfl, _, _, large, 12, rfl, S8, by omega, hL.1, by omega, by decide, by decide, fun l2 s9 d1 d2 d3 S9 => ?_⟩
      refine ⟨Dl.ll, ?_⟩
      refine ⟨_, rfl, _, rfl, _, _, rfl, S9, by omega, fun c s10 e1 e2 S10 => ?_⟩
      refine ⟨_, rfl, _, rfl, _, _, kinds, rfl, S10, by omega, by omega, by omega, fun kd s11 f1 f2 S11 => ?_⟩
      refine ⟨Dl.ll, _, addt Dl.ll, ?_⟩
      have g11 := (S11.get (tl.length + 1)).trans get_two
      have hw : IsW kinds (.tup [.str (strL l1), .str (strL l2), .int c, .int kd]) := ⟨_, _, _, _, rfl, ⟨sgn_sub hs.2.2 c3, by rw [strL_length]; omega, by rw [strL_length]; omega, sgn_sub hL.2.2 d3, by rw [strL_length]; omega, by rw [strL_length]; omega, e1, by omega, f1, f2⟩⟩
      refine ⟨_, rfl, _, rfl, _, .t es, .t (putP es (pairK (.tup [.str (strL l1), .str (strL l2), .int c, .int kd])) (.tup [.str (strL l1), .str (strL l2), .int c, .int kd])), rfl, dictM_mo g11, rfl, Nat.lt_of_le_of_lt (by show es.length ≤ 1000; omega) (Nat.lt_of_lt_of_le (by decide : 1000 < 100000) (le_line (by decide))), ?_⟩
      have S12 := S11.set (tl.length + 1) (some (DV.t (putP es (pairK (.tup [.str (strL l1), .str (strL l2), .int c, .int kd])) (.tup [.str (strL l1), .str (strL l2), .int c, .int kd]))).mo)
      rw [set_two] at S12
      have pl := putP_len es (pairK (.tup [.str (strL l1), .str (strL l2), .int c, .int kd])) (D.tup [.str (strL l1), .str (strL l2), .int c, .int kd])
      exact hN _ _ ⟨_, _, _, rfl, hW.put hw, by omega, S12.up (by push_cast; omega)⟩
    · rintro env s' ⟨es, k, pr, rfl, hW, hl, S7⟩
      rw [List.length_nil] at hl S7
      refine ⟨trivial, ?_⟩
      have g7 := (S7.get (tl.length + 1)).trans get_two
      have g70 := (S7.get tl.length).trans get_two0
      refine ⟨_, rfl, .t es, dictD_mo g7, ?_⟩
      refine ⟨_, rfl, _, _, rfl, g70, Dl.ll, ?_⟩
      have S8 := S7.set tl.length none
      rw [set_two0] at S8
      refine q _ rows _ _ ⟨by show (es.map (·.2)).length ≤ _; rw [List.length_map]; omega, fun w hw => ?_, ?_, fun e => by rw [e] at hrl; simp at hrl; omega, by omega, fun r hr => by rw [hrl]; exact hR r hr⟩ (by omega) (S8.up (by omega))
      · obtain ⟨p, hp, rfl⟩ := List.mem_map.mp hw
        have := (hW.ok p hp).1
        rw [hrl, show (((kinds + 1).toNat : Nat) : Int) - 1 = kinds by omega]
        exact this
      · show ((es.map (·.2)).map pairK).Nodup
        rw [hW.keys]; exact hW.nd
    · refine ⟨[], k, none, ?_, ⟨(fun _ h => nomatch h), List.nodup_nil⟩, by rw [hr]; simp; omega, S6.up (by rw [hr]; omega)⟩
      rw [L8]; rfl
  · refine ⟨[], none, ?_, (fun _ h => nomatch h), by rw [hr]; simp, S5.up (by rw [hr]; omega)⟩
    rw [L4]; rfl
end
end Fa
set_option Elab.async false
set_option linter.all false
set_option autoImplicit false
set_option maxRecDepth 100000
set_option maxHeartbeats 4000000
namespace Fa
open PySem PySem.Spec PyProof.Rows L2 Dl Bk
def IsU (x : D) : Prop := ∃ r w : Str, x = .tup [.str r, .str w] ∧ (sgnIn az r = true ∧ 1 ≤ r.length ∧ r.length ≤ 40) ∧ sgnIn AZ w = true ∧ 1 ≤ w.length ∧ w.length ≤ 12
theorem mul_one {s : Sto} {x : D} {k : Int} (h0 : 0 ≤ k) (h1 : k ≤ 1000) : mulLF s (.lst [x]) (.int k) = some (.lst (List.replicate k.toNat x)) := by
  show (if (-(2 ^ 63) ≤ k ∧ k < 2 ^ 63) ∧ 1 * k.toNat ≤ sizeLine then some (D.lst (List.replicate k.toNat [x]).flatten) else none) = _
  rw [if_pos ⟨⟨by omega, by omega⟩, le_line (by omega)⟩, List.flatten_replicate_singleton]
theorem len_r {s : Sto} {l : Nat} {xs : List D} (h : s[l]? = some (some (.lst xs))) : lenF s [.ref l] = some (.int xs.length) := by
  show (seqL s (.ref l)).map _ = _
  rw [seqL_ref h]; rfl
end Fa
set_option Elab.async false
set_option linter.all false
set_option autoImplicit false
set_option maxRecDepth 100000
set_option maxHeartbeats 4000000
namespace Fa
open PySem PySem.Spec PyProof.Rows L2 Dl Bk
theorem IsU.sz {x : D} (h : IsU x) : szB NN x = true := by
  obtain ⟨r, w, rfl, ⟨a, b, c⟩, d, e, f⟩ := h
  refine sz_tup.mpr ⟨by show 2 ≤ 1000000; decide, fun y hy => ?_⟩
  rcases (by simpa using hy : y = D.str r ∨ y = .str w) with rfl | rfl
  · rw [sz_str]; show _ ≤ 1000000; omega
  · rw [sz_str]; show _ ≤ 1000000; omega
def cnt (us : List D) (k : List Key) : Nat := (us.filter fun u => decide (pairK u = k)).length
theorem cnt_snoc {us : List D} {u : D} {k : List Key} : cnt (us ++ [u]) k = cnt us k + if pairK u = k then 1 else 0 := by
  unfold cnt
  rw [List.filter_append, List.length_append]
  by_cases h : pairK u = k
  · rw [if_pos h, List.filter_cons_of_pos (by simpa using h)]; rfl
  · rw [if_neg h, List.filter_cons_of_neg (by simpa using h)]; rfl
section
variable {κ α : Type} [DecidableEq κ]
theorem getP_app {es fs : List (κ × α)} {k : κ} : getP (es ++ fs) k = (getP es k).or (getP fs k) := by
  induction es with
  | nil => simp [getP]
  | cons p es ih =>
    rw [List.cons_append, getP_cons, getP_cons, ih]
    split <;> rfl
theorem getP_none {es : List (κ × α)} {k : κ} : getP es k = none ↔ k ∉ es.map (·.1) := by
  induction es with
  | nil => simp [getP]
  | cons p es ih =>
    rw [getP_cons, List.map_cons, List.mem_cons]
    by_cases h : p.1 = k
    · rw [if_pos h]; simp [h]
    · rw [if_neg h, ih]
      constructor
      · rintro a (b | b)
        · exact h b.symm
        · exact a b
      · exact fun a b => a (.inr b)
theorem any_iff {es : List (κ × α)} {k : κ} : (es.any fun p => decide (p.1 = k)) = true ↔ k ∈ es.map (·.1) := by
  rw [List.any_eq_true, List.mem_map]
  exact ⟨fun ⟨p, h, e⟩ => ⟨p, h, of_decide_eq_true e⟩, fun ⟨p, h, e⟩ => ⟨p, h, decide_eq_true e⟩⟩
theorem getP_map {es : List (κ × α)} {k j : κ} {v : α} : getP (es.map fun p => if p.1 = k then (p.1, v) else p) j = if j = k ∧ k ∈ es.map (·.1) then some v else getP es j := by
  induction es with
  | nil => simp [getP]
  | cons p es ih =>
    rw [List.map_cons, getP_cons, getP_cons, ih, List.map_cons]
    by_cases h : p.1 = k
    · rw [if_pos h]
      by_cases hj : j = k
      · subst hj
        rw [if_pos h, if_pos ⟨rfl, by rw [h]; exact List.mem_cons_self⟩]
      · have : ¬ p.1 = j := fun z => hj (z.symm.trans h)
        rw [if_neg this, if_neg this, if_neg (fun z => hj z.1), if_neg (fun z => hj z.1)]
    · rw [if_neg h]
      by_cases hj : p.1 = j
      · rw [if_pos hj, if_pos hj, if_neg]
        rintro ⟨z, _⟩
        exact h (hj.trans z)
      · rw [if_neg hj, if_neg hj]
        by_cases hm : j = k ∧ k ∈ es.map (·.1)
        · rw [if_pos hm, if_pos ⟨hm.1, List.mem_cons_of_mem _ hm.2⟩]
        · rw [if_neg hm, if_neg]
          rintro ⟨a, b⟩
          rcases List.mem_cons.mp b with b | b
          · exact h b.symm
          · exact hm ⟨a, b⟩
theorem getP_put {es : List (κ × α)} {k j : κ} {v : α} : getP (putP es k v) j = if j = k then some v else getP es j := by
  unfold putP
  by_cases h : (es.any fun p => decide (p.1 = k)) = true
  · rw [if_pos h, getP_map]
    have hk := any_iff.mp h
    by_cases hj : j = k
    · rw [if_pos ⟨hj, hk⟩, if_pos hj]
    · rw [if_neg (fun z => hj z.1), if_neg hj]
  · rw [if_neg h, getP_app]
    have hk : k ∉ es.map (·.1) := fun z => h (any_iff.mpr z)
    by_cases hj : j = k
    · subst hj
      rw [if_pos rfl, getP_none.mpr hk, getP_cons]; simp
    · rw [if_neg hj, getP_cons, if_neg (fun z => hj z.symm)]
      cases getP es j <;> rfl
theorem putP_keys {es : List (κ × α)} {k : κ} {v : α} : (putP es k v).map (·.1) = if k ∈ es.map (·.1) then es.map (·.1) else es.map (·.1) ++ [k] := by
  unfold putP
  by_cases h : (es.any fun p => decide (p.1 = k)) = true
  · rw [if_pos h, if_pos (any_iff.mp h), List.map_map]
    refine List.map_congr_left fun p _ => ?_
    show (if p.1 = k then (p.1, v) else p).1 = p.1
    split <;> rfl
  · rw [if_neg h, if_neg (fun z => h (any_iff.mpr z)), List.map_append]; rfl
theorem putP_nd {es : List (κ × α)} {k : κ} {v : α} (h : (es.map (·.1)).Nodup) : ((putP es k v).map (·.1)).Nodup := by
  rw [putP_keys]
  split
  · exact h
  · rename_i hn
    rw [List.nodup_append]
    refine ⟨h, by simp, fun a ha c hc e => ?_⟩
    rw [List.mem_singleton.mp hc] at e
    exact hn (e ▸ ha)
end
/-- a dict that tells how often each is there -/
structure TimesOk (us : List D) (es : List (List Key × D)) : Prop where
  nd : (es.map (·.1)).Nodup
  get : ∀ k, getP es k = if cnt us k = 0 then none else some (.int (cnt us k : Nat))
  len : es.length ≤ us.length
theorem TimesOk.getD {us : List D} {es : List (List Key × D)} (h : TimesOk us es) (k : List Key) : (getP es k).getD (.int 0) = .int (cnt us k : Nat) := by
  rw [h.get k]
  split
  · rename_i e; rw [e]; rfl
  · rfl
theorem TimesOk.put {us : List D} {es : List (List Key × D)} (h : TimesOk us es) (u : D) : TimesOk (us ++ [u]) (putP es (pairK u) (.int ((cnt us (pairK u) : Nat) + 1))) := by
  refine ⟨putP_nd h.nd, fun k => ?_, ?_⟩
  · rw [getP_put, cnt_snoc]
    by_cases e : k = pairK u
    · subst e
      rw [if_pos rfl, if_pos rfl, if_neg (by omega)]
      rfl
    · have e2 : (if pairK u = k then 1 else 0) = 0 := if_neg (fun z => e z.symm)
      rw [if_neg e, e2, Nat.add_zero]
      exact h.get k
  · have := putP_len es (pairK u) (D.int ((cnt us (pairK u) : Nat) + 1))
    rw [List.length_append, List.length_singleton]
    have := h.len
    omega
end Fa
set_option Elab.async false
set_option linter.all false
set_option autoImplicit false
set_option maxRecDepth 100000
set_option maxHeartbeats 4000000
namespace Fa
open PySem PySem.Spec PyProof.Rows L2 Dl Bk
abbrev lexI : List (Int ⊕ List Nat) → List (Int ⊕ List Nat) → Bool := PyProof.Rows.lexLt PyProof.Rows.itemOrd
abbrev Tk (x : D) : List (Int ⊕ List Nat) := PySem.W.keyToks (pyD x)
/-- not behind -/
def le (a b : D) : Bool := !lexI (Tk b) (Tk a)
theorem le_trans' {a b c : D} (h1 : le a b = true) (h2 : le b c = true) : le a c = true := by
  unfold le at *
  rw [Bool.not_eq_true'] at *
  cases h : lexI (Tk c) (Tk a) with
  | false => rfl
  | true =>
    rcases PyProof.Rows.lex_negTrans (O := PyProof.Rows.itemOrd) (Tk c) (Tk b) (Tk a) h with h | h
    · have z : false = true := h2.symm.trans h
      cases z
    · have z : false = true := h1.symm.trans h
      cases z
theorem le_total {a b : D} : (le a b || le b a) = true := by
  unfold le
  cases h : lexI (Tk b) (Tk a) with
  | false => rfl
  | true =>
    cases h' : lexI (Tk a) (Tk b) with
    | false => rfl
    | true =>
      have h2 : lexI (Tk b) (Tk b) = true := PyProof.Rows.lex_trans (O := PyProof.Rows.itemOrd) _ _ _ h h'
      have h3 : lexI (Tk b) (Tk b) = false := PyProof.Rows.lex_irrefl (O := PyProof.Rows.itemOrd) _
      rw [h2] at h3; cases h3
theorem srt_pair {ds : List D} : (srt ds).Pairwise (fun a b => le a b = true) :=
  List.pairwise_mergeSort (le := PySem.W.dataLe false pyD) (fun a b c h1 h2 => le_trans' (a := a) (b := b) (c := c) h1 h2) (fun a b => le_total (a := a) (b := b)) ds
theorem srt_perm {ds : List D} : (srt ds).Perm ds := List.mergeSort_perm _ _
end Fa
set_option Elab.async false
set_option linter.all false
set_option autoImplicit false
set_option maxRecDepth 100000
set_option maxHeartbeats 4000000
namespace Fa
open PySem PySem.Spec PyProof.Rows L2 Dl Bk
theorem sgn_app {r a b : Str} (ha : sgnIn r a = true) (hb : sgnIn r b = true) : sgnIn r (a ++ b) = true := by
  unfold sgnIn at *
  have e : (a ++ b).cps.toList = a.cps.toList ++ b.cps.toList := by
    show (a.cps ++ b.cps).toList = _
    simp
  rw [e, List.all_append, ha, hb]; rfl
def sp__law_reading : SpD := fun ds s Q _ => ∃ (b : Int) (tl : Sto) (K : Int) (ws : List D) (j : D), ds = [.ref 1, .tup [.lst ws, j]] ∧ (∀ w ∈ ws, IsW K w) ∧ ws.length ≤ 1000 ∧ StT b tl s ∧ b ≤ 90000000 ∧ ∀ (t : Str) s', sgnIn az t = true → 1 ≤ t.length → t.length ≤ 40 → StT (b + 200) tl s' → Q (.str t) s'
theorem mono__law_reading : MonoSp sp__law_reading := fun _ _ _ _ _ _ f _ ⟨b, tl, K, ws, j, h1, h2, h3, h4, h5, h⟩ => ⟨b, tl, K, ws, j, h1, h2, h3, h4, h5, fun t s' a1 a2 a3 a4 => f _ _ (h t s' a1 a2 a3 a4)⟩
theorem len__law_reading : ∀ ds s Q E, sp__law_reading ds s Q E → ds.length = ["pot", "book"].length := fun _ _ _ _ ⟨_, _, _, _, _, h, _⟩ => by rw [h]; rfl
def b__law_reading : SD := (dSeq (dAsg (dC (.str "")) (gN 2))
  (dSeq (dFor (iR1 (dCons (dBin (oF addF) (dC (.int 1)) (dCall sp__law_dip [] (dCons (dVar 0) (dCons (dBin (oF idxF) (dLst (dCons (dC (.int 2)) (dCons (dC (.int 4)) (dCons (dC (.int 40)) dNil)))) (dCall sp__law_dip [] (dCons (dVar 0) (dCons (dC (.int 3)) dNil)))) dNil)))) dNil)) (gN 3) (dIfS (dAnd (dTest (dBin (oF neF) (dBin (oF idxF) (dVar 1) (dC (.int 0))) (dLst dNil))) (dTest (dBin (oF gtBF) (dCall sp__law_dip [] (dCons (dVar 0) (dCons (dC (.int 4)) dNil))) (dC (.int 0))))) (dAsg (dBin (oF addF) (dVar 2) (dBin (oF idxF) (dBin (oF idxF) (dBin (oF idxF) (dVar 1) (dC (.int 0))) (dCall sp__law_dip [] (dCons (dVar 0) (dCons (dCB lenF (dCons (dBin (oF idxF) (dVar 1) (dC (.int 0))) dNil)) dNil)))) (dC (.int 0)))) (gN 2)) (dAsg (dBin (oF addF) (dVar 2) (dBin (oF idxF) (dC (.str "abz")) (dCall sp__law_dip [] (dCons (dVar 0) (dCons (dC (.int 3)) dNil))))) (gN 2))))
  (dRet (dSl (dVar 2) dNoP (dP (dC (.int 40)))))))
section
variable (ds : List D) (s : Sto) (Q : D → Sto → Prop) (E : XD)
theorem pf__law_reading (h : sp__law_reading ds s Q E) : b__law_reading (endsOf Q) (envD ["pot", "book", "made", "k"] ds) s := by
  obtain ⟨b, tl, K, ws, j, rfl, hW, hwl, S, hb, q⟩ := h
  have hr : ∀ a n, (rangeD a n).length = n := fun a n => by simp [rangeD]
  refine ⟨_, rfl, Dl.ll, _, rfl, _, tl, 3, rfl, S, by omega, by decide, by decide, fun i1 s1 a1 b1 S1 => ?_⟩
  obtain ⟨x, hx, hm⟩ := three (a := D.int 2) (b := D.int 4) (c := D.int 40) a1 b1
  obtain ⟨long, rfl, hg1, hg2⟩ : ∃ z : Int, x = .int z ∧ 1 ≤ z ∧ z ≤ 40 := by
    rcases hm with rfl | rfl | rfl <;> exact ⟨_, rfl, by decide, by decide⟩
  refine ⟨_, hx, _, tl, long, rfl, S1, by omega, by omega, by omega, fun i2 s2 a2 b2 S2 => ?_⟩
  refine ⟨_, rfl, _, rfl, by omega, by omega, ?_⟩
  refine forD_run (fun rest env s' => ∃ (z : Str) (e3 : Option D), env = [some (.ref 1), some (.tup [.lst ws, j]), some (.str z), e3] ∧ sgnIn az z = true ∧ z.length + 40 * rest.length ≤ 1600 ∧ (rest.length = (1 + i2).toNat ∨ 1 ≤ z.length) ∧ StT (b + 100 - 2 * rest.length) tl s') ?_ ?_ ⟨"", none, rfl, rfl, by rw [hr]; show 0 + _ ≤ _; omega, .inl (by rw [hr]), S2.up (by rw [hr]; omega)⟩
  · rintro d rest env s' ⟨z, e3, rfl, hz, hl, hc, S3⟩ N hN
    rw [List.length_cons] at hl S3
    refine ⟨trivial, ?_⟩
    have fin : ∀ (y : Str) s4, sgnIn az y = true → 1 ≤ y.length → y.length ≤ 40 → StT (b + 100 - 2 * rest.length) tl s4 → N [some (.ref 1), some (.tup [.lst ws, j]), some (.str (z ++ y)), some d] s4 := fun y s4 y1 y2 y3 S4 => by
      have e : (z ++ y).length = z.length + y.length := strLen_append _ _
      exact hN _ _ ⟨_, _, rfl, sgn_app hz y1, by omega, .inr (by omega), S4⟩
    have low : ∀ s4, StT (b + 100 - 2 * ((rest.length + 1 : Nat) : Int) + 1) tl s4 → (dAsg (dBin (oF addF) (dVar 2) (dBin (oF idxF) (dC (.str "abz")) (dCall sp__law_dip [] (dCons (dVar 0) (dCons (dC (.int 3)) dNil))))) (gN 2)) ⟨N, (endsOf Q).rt, dRet (dSl (dVar 2) dNoP (dP (dC (.int 40)))) (endsOf Q), N⟩ [some (.ref 1), some (.tup [.lst ws, j]), some (.str z), some d] s4 := fun s4 S4 => by
      refine ⟨_, rfl, _, rfl, _, tl, 3, rfl, S4, by omega, by decide, by decide, fun i s5 c1 c2 S5 => ?_⟩
      obtain ⟨y, hy, y1, y2, y3⟩ : ∃ y : Str, idxF s5 (.str "abz") (.int i) = some (.str y) ∧ sgnIn az y = true ∧ 1 ≤ y.length ∧ y.length ≤ 40 := by
        rcases (by omega : i = 0 ∨ i = 1 ∨ i = 2) with rfl | rfl | rfl
        · exact ⟨"a", rfl, by decide +kernel, by decide, by decide⟩
        · exact ⟨"b", rfl, by decide +kernel, by decide, by decide⟩
        · exact ⟨"z", rfl, by decide +kernel, by decide, by decide⟩
      exact ⟨_, hy, _, adds (le_line (by omega)), fin y s5 y1 y2 y3 (S5.up (by omega))⟩
    refine ⟨_, rfl, _, rfl, Nat.zero_le _, _, ne_l0, _, rfl, ifB (fun hne => ?_) fun he => ?_⟩
    · have hw1 : 1 ≤ ws.length := by
        rcases Nat.eq_zero_or_pos ws.length with h0 | h0
        · rw [List.length_eq_zero_iff.mp h0] at hne; simp at hne
        · exact h0
      refine ⟨_, rfl, _, tl, 4, rfl, S3, by omega, by decide, by decide, fun i s4 c1 c2 S4 => ⟨_, rfl, _, rfl, ?_⟩⟩
      refine ifB (fun _ => ?_) fun _ => low s4 (S4.up (by omega))
      refine ⟨_, rfl, _, rfl, _, rfl, _, rfl, _, rfl, _, rfl, _, rfl, _, tl, ws.length, rfl, S4, by omega, by omega, by omega, fun k s5 d1 d2 S5 => ?_⟩
      obtain ⟨w, hw, hwm⟩ := atI_mem (xs := ws) d1 d2
      obtain ⟨r, wr, c, kd, rfl, ok⟩ := hW w hwm
      have := ok.r3
      exact ⟨_, hw, _, rfl, _, adds (le_line (by omega)), fin r s5 ok.r1 ok.r2 ok.r3 (S5.up (by omega))⟩
    · exact low s' (S3.up (by omega))
  · rintro env s' ⟨z, e3, rfl, hz, hl, hc, S3⟩
    rw [List.length_nil] at hl hc S3
    refine ⟨trivial, _, rfl, _, rfl, _, rfl, ?_⟩
    have hlen : (cutD z.cps.toList none (some 40)).length = min 40 z.length := by
      rw [cutD_to (by decide), List.length_take]
      simp [Str.length]
    have e : (⟨(cutD z.cps.toList none (some 40)).toArray⟩ : Str) = strL (cutD z.cps.toList none (some 40)) := rfl
    rw [e]
    refine q _ _ (sgn_sub hz fun c hc => ?_) (by rw [strL_length]; omega) (by rw [strL_length]; omega) (S3.up (by omega))
    rw [cutD_to (by decide)] at hc
    exact List.mem_of_mem_take hc
end
def leP (x y : PyData) : Bool := !PySem.W.dataLt y x
theorem leP_trans {a b c : PyData} (h1 : leP a b = true) (h2 : leP b c = true) : leP a c = true := by
  unfold leP at *
  rw [Bool.not_eq_true'] at *
  cases h : PySem.W.dataLt c a with
  | false => rfl
  | true =>
    rcases PyProof.Rows.lex_negTrans (O := PyProof.Rows.itemOrd) _ (PySem.W.keyToks b) _ h with h | h
    · exact h2.symm.trans h ▸ rfl
    · exact h1.symm.trans h ▸ rfl
theorem leP_total {a b : PyData} : (leP a b || leP b a) = true := by
  unfold leP
  cases h : PySem.W.dataLt b a with
  | false => rfl
  | true =>
    cases h' : PySem.W.dataLt a b with
    | false => rfl
    | true =>
      have h2 : PySem.W.dataLt b b = true := PyProof.Rows.lex_trans (O := PyProof.Rows.itemOrd) _ _ _ h h'
      have h3 : PySem.W.dataLt b b = false := PyProof.Rows.lex_irrefl (O := PyProof.Rows.itemOrd) _
      rw [h2] at h3; cases h3
theorem leP_lt {a b : PyData} (h : PySem.W.dataLt a b = true) : leP a b = true := by
  have := leP_total (a := a) (b := b)
  cases h2 : leP a b with
  | true => rfl
  | false =>
    rw [h2, Bool.false_or] at this
    unfold leP at this
    rw [h] at this; cases this
theorem leP_toks {a b : PyData} (h1 : leP a b = true) (h2 : leP b a = true) : PySem.W.keyToks a = PySem.W.keyToks b := by
  unfold leP at *
  rw [Bool.not_eq_true'] at *
  exact PyProof.Rows.lex_total (O := PyProof.Rows.itemOrd) _ _ h2 h1
abbrev kCW : D → Option D := kTup (kCons (kItem 2) (kCons (kItem 1) kNil))
def rdIs (r : Str) : D → Bool
  | .tup (.str z :: _) => z == r
  | _ => false
theorem nodup_inj {α β : Type} {f : α → β} : ∀ {l : List α}, (l.map f).Nodup → ∀ {a b : α}, a ∈ l → b ∈ l → f a = f b → a = b
  | [], _, _, _, h, _, _ => nomatch h
  | x :: l, hn, a, b, ha, hb, e => by
    rw [List.map_cons, List.nodup_cons] at hn
    rcases List.mem_cons.mp ha with e1 | h1
    · rcases List.mem_cons.mp hb with e2 | h2
      · rw [e1, e2]
      · exact absurd (List.mem_map.mpr ⟨b, h2, by rw [← e, e1]⟩) hn.1
    · rcases List.mem_cons.mp hb with e2 | h2
      · exact absurd (List.mem_map.mpr ⟨a, h1, by rw [e, e2]⟩) hn.1
      · exact nodup_inj hn.2 h1 h2 e
abbrev kle (a b : D) : Bool := leP (keyD kCW a) (keyD kCW b)
structure Wof (ws : List D) (r : Str) (L : List D) : Prop where
  pm : L.Perm (ws.filter (rdIs r))
  so : L.Pairwise (fun a b => kle a b = true)
theorem Wof.len {ws L : List D} {r : Str} (h : Wof ws r L) : L.length ≤ ws.length := by rw [h.pm.length_eq]; exact List.length_filter_le ..
end Fa
set_option Elab.async false
set_option linter.all false
set_option autoImplicit false
set_option maxRecDepth 100000
set_option maxHeartbeats 4000000
namespace Fa
open PySem PySem.Spec PyProof.Rows L2 Dl Bk
theorem allO_self {f : D → D → Option Bool} : ∀ {xs : List D}, (∀ x ∈ xs, f x x = some true) → allO f xs xs = some true
  | [], _ => rfl
  | x :: xs, h => by
    show (match f x x, allO f xs xs with | some a, some b => some (a && b) | _, _ => none) = _
    rw [h x List.mem_cons_self, allO_self fun y hy => h y (List.mem_cons_of_mem _ hy)]; rfl
theorem eq_self_lst {n : Nat} {xs : List D} (h : ∀ x ∈ xs, eqN n x x = some true) : eqN (n + 1) (.lst xs) (.lst xs) = some true := by
  show (if xs.length = xs.length then allO (eqN n) xs xs else some false) = _
  rw [if_pos rfl, allO_self h]
theorem drf_lst {s : Sto} {xs : List D} : drf s (.lst xs) = .lst xs := rfl
theorem eq_self_w {n : Nat} {K : Int} {x : D} (h : IsW K x) : eqN (n + 2) x x = some true := by
  obtain ⟨r, w, c, k, rfl, _⟩ := h
  simp [eqN, allO]
theorem StT.appL {b : Int} {tl s : Sto} (h : StT b tl s) {u : Sto} : StT b (tl ++ u) (s ++ u) := by
  obtain ⟨xs, st, n, rfl, r⟩ := h; exact ⟨xs, st, n, rfl, r⟩
def Pot (b : Int) (s : Sto) : Prop := ∃ tl, StT b tl s
theorem Pot.app {b : Int} {s u : Sto} (h : Pot b s) : Pot b (s ++ u) := let ⟨_, h⟩ := h; ⟨_, StT.appL h⟩
theorem Pot.set {b : Int} {s : Sto} (h : Pot b s) {l : Nat} (hl : 2 ≤ l) {o : Option MO} : Pot b (s.set l o) := by
  obtain ⟨tl, h⟩ := h
  obtain ⟨i, rfl⟩ : ∃ i, l = i + 2 := ⟨l - 2, by omega⟩
  exact ⟨_, h.set i o⟩
theorem Pot.up {b c : Int} {s : Sto} (h : Pot b s) (hc : b ≤ c) : Pot c s := let ⟨_, h⟩ := h; ⟨_, h.up hc⟩
end Fa
set_option Elab.async false
set_option linter.all false
set_option autoImplicit false
set_option maxRecDepth 100000
set_option maxHeartbeats 4000000
namespace Fa
open PySem PySem.Spec PyProof.Rows L2 Dl Bk
open Fb (standsAt rdOf cut_stands cps_len idx_sign rawD)
abbrev kLW : D → Option D := kTup (kCons (kLen (kItem 0)) (kCons (kItem 1) kNil))
abbrev kla (a b : D) : Bool := leP (keyD kLW a) (keyD kLW b)
abbrev Std (ws : List D) (t : List Nat) (i : Nat) : List D := ws.filter (standsAt t i)
structure Aof (ws rows : List D) (t : List Nat) (i : Nat) (L : List D) : Prop where
  ex : ∃ M, L = rawD (t.getD i 0) ((rows.length : Int) - 1) :: M ∧ M.Perm (Std ws t i) ∧ M.Pairwise (fun a b => kla a b = true)
theorem Aof.len {ws rows L : List D} {t : List Nat} {i : Nat} (h : Aof ws rows t i L) : L.length ≤ ws.length + 1 := by
  obtain ⟨M, rfl, p, _⟩ := h.ex
  rw [List.length_cons, p.length_eq]
  have : (Std ws t i).length ≤ ws.length := List.length_filter_le ..
  omega
/-- an item of a row is of the same kind as a word -/
theorem eq_self_raw {n : Nat} {c : Nat} {e : Int} : eqN (n + 2) (rawD c e) (rawD c e) = some true := by
  unfold rawD
  simp [eqN, allO]
theorem Aof.self {K : Int} {ws rows L : List D} {t : List Nat} {i : Nat} (hW : ∀ w ∈ ws, IsW K w) (h : Aof ws rows t i L) : ∀ x ∈ L, eqN 59 x x = some true := fun x hx => by
  obtain ⟨M, rfl, p, _⟩ := h.ex
  rcases List.mem_cons.mp hx with rfl | hx
  · exact eq_self_raw
  · exact eq_self_w (hW x (List.mem_filter.mp (p.mem_iff.mp hx)).1)
end Fa
set_option Elab.async false
set_option linter.all false
set_option autoImplicit false
set_option maxRecDepth 100000
set_option maxHeartbeats 4000000
namespace Fa
open PySem PySem.Spec PyProof.Rows L2 Dl Bk
open Fb (standsAt rdOf cut_stands cps_len idx_sign rawD stands_len)
theorem range_mem {n : Nat} {d : D} (h : d ∈ rangeD 0 n) : ∃ j : Nat, d = .int (j : Nat) ∧ j < n := by
  obtain ⟨k, hk, rfl⟩ := List.mem_map.mp h
  exact ⟨k, by rw [Int.zero_add], List.mem_range.mp hk⟩
theorem mem_range {n j : Nat} (h : j < n) : D.int (j : Nat) ∈ rangeD 0 n := List.mem_map.mpr ⟨j, List.mem_range.mpr h, by rw [Int.zero_add]⟩
theorem stands_drop {t : List Nat} {i c : Nat} {w : D} (hc : c ≤ i) : standsAt (t.drop c) (i - c) w = standsAt t i w := by
  unfold standsAt
  have : ((t.drop c).take (i - c + (rdOf w).length)).drop (i - c) = (t.take (i + (rdOf w).length)).drop i := by
    rw [List.drop_take, List.drop_take, List.drop_drop, show i - c + (rdOf w).length - (i - c) = (rdOf w).length by omega, show i + (rdOf w).length - i = (rdOf w).length by omega, show c + (i - c) = i by omega]
  rw [this]
end Fa
set_option Elab.async false
set_option linter.all false
set_option autoImplicit false
set_option maxRecDepth 100000
set_option maxHeartbeats 4000000
namespace Fa
open PySem PySem.Spec PyProof.Rows L2 Dl Bk
open Fb (standsAt rdOf cut_stands cps_len idx_sign rawD stands_len)
theorem lexJ_diff {x y : Int ⊕ List Nat} {r t : List (Int ⊕ List Nat)} (h : x ≠ y) : lexI (x :: r) (y :: t) = PyProof.Rows.itemLt x y := PyProof.Rows.lex_diff (O := PyProof.Rows.itemOrd) h
theorem lexJ_self {x : Int ⊕ List Nat} {r t : List (Int ⊕ List Nat)} : lexI (x :: r) (x :: t) = lexI r t := PyProof.Rows.lex_self (O := PyProof.Rows.itemOrd) x r t
def k3 (us : List D) : D → PyData
  | .tup [.str r, .str w, .int c, .int _] => .tuple [.int (-(cnt us [.inr r, .inr w] : Nat)), .int c, .str w]
  | _ => .none
abbrev le3 (us : List D) (a b : D) : Bool := leP (k3 us a) (k3 us b)
structure Cof (us ws : List D) (r : Str) (O : List D) : Prop where
  pm : O.Perm (ws.filter (rdIs r))
  so : O.Pairwise (fun a b => le3 us a b = true)
theorem Cof.len {us ws L : List D} {r : Str} (h : Cof us ws r L) : L.length ≤ ws.length := by rw [h.pm.length_eq]; exact List.length_filter_le ..
end Fa
set_option Elab.async false
set_option linter.all false
set_option autoImplicit false
set_option maxRecDepth 100000
set_option maxHeartbeats 600000
namespace Od
open PySem PySem.Spec PyProof.Rows L2 Dl Bk
open Fb (pairD rdOf standsAt rawD stRow stands_len jn kd cs costF Part cps_len)
open Fa (lexI leP leP_trans leP_total leP_toks lexJ_diff lexJ_self)
def pairP (x : D) : PyData := pyD (pairD x)
/-- by costs, how many words, their names -/
def keyP (rows : List D) (k : Nat) (l : List D) : PyData := .tuple [.int (costF rows k l), .int (l.length : Nat), .tuple (l.map pairP)]
def leL (rows : List D) (k : Nat) (a b : List D) : Bool := leP (keyP rows k a) (keyP rows k b)
def stW (ws rows : List D) (z : Str) (i : Nat) : List D := if i < z.length then stRow ws ((rows.length : Int) - 1) z.cps.toList i else []
def lnW (x : D) : Nat := (rdOf x).length
theorem toks_key (rows : List D) (k : Nat) (l : List D) : PySem.W.keyToks (keyP rows k l) = [.inl 1, .inl (costF rows k l), .inl 1, .inl ((l.length : Nat) : Int), .inl 1] ++ (PySem.W.keyToksAll (l.map pairP) ++ [.inl 0]) := by
  unfold keyP
  simp [PySem.W.keyToks, PySem.W.keyToksAll]
theorem toks_names (x : D) (l : List D) : PySem.W.keyToksAll ((x :: l).map pairP) = .inl 1 :: (PySem.W.keyToks (pairP x) ++ PySem.W.keyToksAll (l.map pairP)) := by
  rw [List.map_cons, PySem.W.keyToksAll]
theorem lex_app : ∀ (p a b : List (Int ⊕ List Nat)), lexI (p ++ a) (p ++ b) = lexI a b
  | [], _, _ => rfl
  | x :: p, a, b => by
    show lexI (x :: (p ++ a)) (x :: (p ++ b)) = _
    rw [lexJ_self]; exact lex_app p a b
theorem lt_key (rows : List D) (k : Nat) (x : D) (a b : List D) : PySem.W.dataLt (keyP rows k (x :: a)) (keyP rows k (x :: b)) = PySem.W.dataLt (keyP rows (kd x) a) (keyP rows (kd x) b) := by
  show lexI (PySem.W.keyToks _) (PySem.W.keyToks _) = lexI (PySem.W.keyToks _) (PySem.W.keyToks _)
  rw [toks_key, toks_key, toks_key, toks_key, toks_names, toks_names]
  have c1 : costF rows k (x :: a) = jn rows k (kd x) + cs x + costF rows (kd x) a := rfl
  have c2 : costF rows k (x :: b) = jn rows k (kd x) + cs x + costF rows (kd x) b := rfl
  have l1 : (((x :: a).length : Nat) : Int) = (a.length : Nat) + 1 := by rw [List.length_cons]; rfl
  have l2 : (((x :: b).length : Nat) : Int) = (b.length : Nat) + 1 := by rw [List.length_cons]; rfl
  rw [c1, c2, l1, l2]
  simp only [List.cons_append, List.nil_append]
  rw [lexJ_self, lexJ_self]
  by_cases hc : costF rows (kd x) a = costF rows (kd x) b
  · rw [hc, lexJ_self, lexJ_self, lexJ_self, lexJ_self]
    by_cases hl : a.length = b.length
    · rw [hl, lexJ_self, lexJ_self, lexJ_self, lexJ_self, lexJ_self, List.append_assoc, List.append_assoc, lex_app]
    · rw [lexJ_diff (fun e => hl (by injection e with e; omega)), lexJ_diff (fun e => hl (by injection e with e; omega))]
      show decide (((a.length : Nat) : Int) + 1 < ((b.length : Nat) : Int) + 1) = decide (((a.length : Nat) : Int) < ((b.length : Nat) : Int))
      exact decide_eq_decide.mpr (by omega)
  · rw [lexJ_diff (fun e => hc (by injection e with e; omega)), lexJ_diff (fun e => hc (by injection e))]
    show decide (jn rows k (kd x) + cs x + costF rows (kd x) a < jn rows k (kd x) + cs x + costF rows (kd x) b) = decide (costF rows (kd x) a < costF rows (kd x) b)
    exact decide_eq_decide.mpr (by omega)
theorem leL_mono (rows : List D) (k : Nat) (x : D) (a b : List D) : leL rows k (x :: a) (x :: b) = leL rows (kd x) a b := by
  unfold leL leP
  rw [lt_key]
/-- what stands has a form -/
def WdF (x : D) : Prop := ∃ (r w : Str) (c k : Int), x = .tup [.str r, .str w, .int c, .int k]
theorem pairP_inj {x y : D} (hx : WdF x) (hy : WdF y) (h : PySem.W.keyToks (pairP x) = PySem.W.keyToks (pairP y)) : pairK x = pairK y := by
  obtain ⟨r, w, c, k, rfl⟩ := hx
  obtain ⟨r', w', c', k', rfl⟩ := hy
  have h : PySem.W.keyToks (.tuple [.str r, .str w]) = PySem.W.keyToks (.tuple [.str r', .str w']) := h
  simp only [PySem.W.keyToks, PySem.W.keyToksAll, List.cons_append, List.nil_append] at h
  injection h with _ h
  injection h with h1 h
  injection h with _ h
  injection h with h2 _
  show ([.inr r, .inr w] : List Key) = [.inr r', .inr w']
  rw [PySem.W.str_of_cps (Sum.inr.inj h1), PySem.W.str_of_cps (Sum.inr.inj h2)]
theorem pair_toks {x : D} (hx : WdF x) : ∃ a b : List Nat, PySem.W.keyToks (pairP x) = [.inl 1, .inr a, .inl 1, .inr b, .inl 0] := by
  obtain ⟨r, w, c, k, rfl⟩ := hx
  refine ⟨r.cps.toList, w.cps.toList, ?_⟩
  show PySem.W.keyToks (.tuple [.str r, .str w]) = _
  simp only [PySem.W.keyToks, PySem.W.keyToksAll, List.cons_append, List.nil_append]
theorem names_inj : ∀ {a b : List D}, (∀ x ∈ a, WdF x) → (∀ x ∈ b, WdF x) → PySem.W.keyToksAll (a.map pairP) ++ [Sum.inl (0 : Int)] = PySem.W.keyToksAll (b.map pairP) ++ [Sum.inl 0] → a.map pairK = b.map pairK
  | [], [], _, _, _ => rfl
  | [], y :: b, _, hb, h => by
    rw [toks_names] at h
    simp [PySem.W.keyToksAll] at h
  | x :: a, [], ha, _, h => by
    rw [toks_names] at h
    simp [PySem.W.keyToksAll] at h
  | x :: a, y :: b, ha, hb, h => by
    rw [toks_names, toks_names] at h
    obtain ⟨a1, b1, e1⟩ := pair_toks (ha x List.mem_cons_self)
    obtain ⟨a2, b2, e2⟩ := pair_toks (hb y List.mem_cons_self)
    have hp : PySem.W.keyToks (pairP x) = PySem.W.keyToks (pairP y) ∧ PySem.W.keyToksAll (a.map pairP) ++ [Sum.inl (0 : Int)] = PySem.W.keyToksAll (b.map pairP) ++ [Sum.inl 0] := by
      rw [e1, e2] at h ⊢
      simp only [List.cons_append, List.nil_append, List.append_assoc] at h
      injection h with _ h
      injection h with _ h
      injection h with h1 h
      injection h with _ h
      injection h with h2 h
      injection h with _ h
      exact ⟨by rw [h1, h2], h⟩
    rw [List.map_cons, List.map_cons, pairP_inj (ha x List.mem_cons_self) (hb y List.mem_cons_self) hp.1, names_inj (fun u hu => ha u (List.mem_cons_of_mem _ hu)) (fun u hu => hb u (List.mem_cons_of_mem _ hu)) hp.2]
theorem key_inj {rows : List D} {k : Nat} {a b : List D} (ha : ∀ x ∈ a, WdF x) (hb : ∀ x ∈ b, WdF x) (h : PySem.W.keyToks (keyP rows k a) = PySem.W.keyToks (keyP rows k b)) : a.map pairK = b.map pairK := by
  rw [toks_key, toks_key] at h
  simp only [List.cons_append, List.nil_append] at h
  injection h with _ h
  injection h with _ h
  injection h with _ h
  injection h with _ h
  injection h with _ h
  exact names_inj ha hb h
section
variable {m : Nat} {ws rows : List D} {z : Str}
theorem st_mem (B : BookOk m ws rows) {i : Nat} {x : D} (h : x ∈ stW ws rows z i) : i < z.length ∧ (x = rawD (z.cps.toList.getD i 0) ((rows.length : Int) - 1) ∨ (x ∈ ws ∧ standsAt z.cps.toList i x = true)) := by
  unfold stW at h
  by_cases hi : i < z.length
  · rw [if_pos hi] at h
    refine ⟨hi, ?_⟩
    rcases List.mem_cons.mp h with h | h
    · exact .inl h
    · exact .inr (List.mem_filter.mp h)
  · rw [if_neg hi] at h; cases h
theorem st_ok (B : BookOk m ws rows) {i : Nat} {x : D} (h : x ∈ stW ws rows z i) : i < z.length ∧ 1 ≤ lnW x ∧ i + lnW x ≤ z.length := by
  obtain ⟨hi, h⟩ := st_mem B h
  refine ⟨hi, ?_⟩
  have hzl : z.cps.toList.length = z.length := cps_len z
  rcases h with rfl | ⟨hx, hs⟩
  · exact ⟨Nat.le_refl 1, hi⟩
  · obtain ⟨r, w, c, k, rfl, ok⟩ := B.ww x hx
    have h1 : 1 ≤ (rdOf (.tup [.str r, .str w, .int c, .int k])).length := by
      show 1 ≤ r.cps.toList.length
      rw [cps_len]; exact ok.r2
    obtain ⟨h2, _⟩ := stands_len hs h1
    exact ⟨h1, by rw [← hzl]; exact h2⟩
theorem st_form (B : BookOk m ws rows) {i : Nat} {x : D} (h : x ∈ stW ws rows z i) : WdF x := by
  obtain ⟨hi, h⟩ := st_mem B h
  rcases h with rfl | ⟨hx, hs⟩
  · exact ⟨_, _, _, _, rfl⟩
  · obtain ⟨r, w, c, k, rfl, ok⟩ := B.ww x hx
    exact ⟨_, _, _, _, rfl⟩
theorem raw_pair (B : BookOk m ws rows) (hz : sgnIn az z = true) {i : Nat} (hi : i < z.length) : pairK (rawD (z.cps.toList.getD i 0) ((rows.length : Int) - 1)) ∉ ws.map pairK := fun h => by
  obtain ⟨x, hx, e⟩ := List.mem_map.mp h
  obtain ⟨r, w, c, k, rfl, ok⟩ := B.ww x hx
  have e : ([.inr r, .inr w] : List Key) = [.inr ⟨#[z.cps.toList.getD i 0]⟩, .inr ⟨#[z.cps.toList.getD i 0]⟩] := e
  injection e with _ e
  injection e with e _
  have e := Sum.inr.inj e
  have hc : z.cps.toList.getD i 0 ∈ z.cps.toList := by
    have hl : i < z.cps.toList.length := by rw [cps_len]; exact hi
    rw [List.getD_eq_getElem?_getD, List.getElem?_eq_getElem hl]
    exact List.getElem_mem hl
  have h1 := of_decide_eq_true (List.all_eq_true.mp hz _ hc)
  have hw : z.cps.toList.getD i 0 ∈ w.cps.toList := by rw [e]; simp
  have h2 := of_decide_eq_true (List.all_eq_true.mp ok.w1 _ hw)
  have h3 : ∀ c ∈ (az : Str).cps.toList, c ∉ (AZ : Str).cps.toList := by decide +kernel
  exact h3 _ h1 h2
theorem st_pairs (B : BookOk m ws rows) (hz : sgnIn az z = true) (i : Nat) : ((stW ws rows z i).map pairK).Nodup := by
  unfold stW
  by_cases hi : i < z.length
  · rw [if_pos hi]
    show (pairK (rawD _ _) :: (ws.filter _).map pairK).Nodup
    refine List.nodup_cons.mpr ⟨fun h => ?_, (List.Sublist.map _ List.filter_sublist).nodup B.wd⟩
    exact raw_pair B hz hi ((List.Sublist.map _ List.filter_sublist).subset h)
  · rw [if_neg hi]; simp
theorem all_form (B : BookOk m ws rows) {f : Nat} : ∀ {i : Nat} {l : List D}, l ∈ alls (stW ws rows z) lnW z.length f i → ∀ x ∈ l, WdF x := by
  induction f with
  | zero =>
    intro i l h x hx
    unfold alls at h
    by_cases hi : z.length ≤ i
    · rw [if_pos hi] at h
      rw [List.mem_singleton.mp h] at hx; cases hx
    · rw [if_neg hi] at h; cases h
  | succ f ih =>
    intro i l h x hx
    unfold alls at h
    by_cases hi : z.length ≤ i
    · rw [if_pos hi] at h
      rw [List.mem_singleton.mp h] at hx; cases hx
    · rw [if_neg hi] at h
      obtain ⟨y, hy, hl⟩ := List.mem_flatMap.mp h
      obtain ⟨t, ht, rfl⟩ := List.mem_map.mp hl
      rcases List.mem_cons.mp hx with rfl | hx
      · exact st_form B hy
      · exact ih ht x hx
theorem all_pairs (B : BookOk m ws rows) (hz : sgnIn az z = true) {f : Nat} : ∀ {i : Nat} {a b : List D}, a ∈ alls (stW ws rows z) lnW z.length f i → b ∈ alls (stW ws rows z) lnW z.length f i → a.map pairK = b.map pairK → a = b := by
  induction f with
  | zero =>
    intro i a b ha hb e
    unfold alls at ha hb
    by_cases hi : z.length ≤ i
    · rw [if_pos hi] at ha hb
      rw [List.mem_singleton.mp ha, List.mem_singleton.mp hb]
    · rw [if_neg hi] at ha; cases ha
  | succ f ih =>
    intro i a b ha hb e
    unfold alls at ha hb
    by_cases hi : z.length ≤ i
    · rw [if_pos hi] at ha hb
      rw [List.mem_singleton.mp ha, List.mem_singleton.mp hb]
    · rw [if_neg hi] at ha hb
      obtain ⟨x, hx, ha⟩ := List.mem_flatMap.mp ha
      obtain ⟨y, hy, hb⟩ := List.mem_flatMap.mp hb
      obtain ⟨t, ht, rfl⟩ := List.mem_map.mp ha
      obtain ⟨u, hu, rfl⟩ := List.mem_map.mp hb
      rw [List.map_cons, List.map_cons] at e
      obtain ⟨e1, e2⟩ := List.cons.inj e
      have : x = y := Fa.nodup_inj (st_pairs B hz i) hx hy e1
      subst this
      rw [ih ht hu e2]
theorem ok_of (B : BookOk m ws rows) (hz : sgnIn az z = true) : Ok (stW ws rows z) lnW kd z.length (leL rows) := by
  refine ⟨fun i x hx => st_ok B hx, fun i => ?_, fun k a b => leP_total, fun k a b c h1 h2 => leP_trans h1 h2, fun i k a b ha hb h1 h2 => ?_, fun k x a b => leL_mono rows k x a b⟩
  · have h := st_pairs B hz i
    exact List.Pairwise.of_map pairK (fun a b h e => h (by rw [e])) h
  · exact all_pairs B hz ha hb (key_inj (all_form B ha) (all_form B hb) (leP_toks h1 h2))
theorem st_ne {i : Nat} (hi : i < z.length) : stW ws rows z i ≠ [] := by
  unfold stW
  rw [if_pos hi]
  intro h
  cases h
end
end Od
set_option Elab.async false
set_option linter.all false
set_option autoImplicit false
set_option maxRecDepth 100000
set_option maxHeartbeats 4000000
namespace L2
open PySem PySem.Spec PyProof.Rows
end L2
namespace Dl
open PySem PySem.Spec PyProof.Rows L2
end Dl
set_option Elab.async false
set_option linter.all false
set_option autoImplicit false
set_option maxRecDepth 100000
set_option maxHeartbeats 4000000
namespace L2
open PySem PySem.Spec PyProof.Rows
end L2
namespace Dl
open PySem PySem.Spec PyProof.Rows L2
end Dl
set_option Elab.async false
set_option linter.all false
set_option autoImplicit false
set_option maxRecDepth 100000
set_option maxHeartbeats 4000000
namespace Dl
open PySem PySem.Spec PyProof.Rows L2
end Dl
set_option Elab.async false
set_option linter.all false
set_option autoImplicit false
set_option maxRecDepth 100000
set_option maxHeartbeats 4000000
namespace Dl
open PySem PySem.Spec PyProof.Rows L2
/-- nothing is raised -/
abbrev noW : WXD := fun _ _ _ _ => False
end Dl
set_option Elab.async false
set_option linter.all false
set_option autoImplicit false
set_option maxRecDepth 100000
set_option maxHeartbeats 4000000
namespace Dl
open PySem PySem.Spec PyProof.Rows L2
end Dl
set_option Elab.async false
set_option linter.all false
set_option autoImplicit false
set_option maxRecDepth 100000
set_option maxHeartbeats 4000000
namespace Dl
open PySem PySem.Spec PyProof.Rows L2
/-- an own class, by its name -/
structure ClsN (K : PySem.W.Frag) (c : Str) (C : Addr) : Prop where
  n : PySem.W.nsIn K mainGlobals c = some (some (.ref C))
  c : Cls K C
theorem ClsN.eq {K : PySem.W.Frag} {c : Str} {C C' : Addr} (h : ClsN K c C) (g : PySem.W.nsIn K mainGlobals c = some (some (.ref C'))) : C' = C := by
  have e := g.symm.trans h.n
  cases e; rfl
/-- .. of which no class has the attribute f -/
def HasF (K : PySem.W.Frag) (c f : Str) : Prop := ∃ C, ClsN K c C ∧ NoAttr K C f
def putD (f : Str) (y : D) : List (Str × D) → List (Str × D)
  | [] => [(f, y)]
  | (g, z) :: r => if g = f then (g, y) :: r else (g, z) :: putD f y r
theorem putD_names {K : PySem.W.Frag} {F : Hp} {A : List Addr} {f : Str} {y : D} {v : V} (hd : Dat K F A y v) : ∀ {fs : List (Str × D)} {fvs : List (Str × V)}, fvs.map (·.1) = fs.map (·.1) → DatL K F A (fs.map (·.2)) (fvs.map (·.2)) →
    (putF f v fvs).map (·.1) = (putD f y fs).map (·.1) ∧ DatL K F A ((putD f y fs).map (·.2)) ((putF f v fvs).map (·.2))
  | [], fvs, hn, hv => by
    have e : fvs = [] := List.map_eq_nil_iff.mp hn
    subst e
    exact ⟨rfl, .cons hd .nil⟩
  | (g, z) :: r, fvs, hn, hv => by
    cases fvs with
    | nil => cases hn
    | cons p q =>
      obtain ⟨g', u⟩ := p
      have e1 : g' = g := (List.cons.inj hn).1
      have e2 : q.map (·.1) = r.map (·.1) := (List.cons.inj hn).2
      subst e1
      cases hv with
      | cons h1 h2 =>
        unfold putF putD
        by_cases c : g' = f
        · rw [if_pos c, if_pos c]
          exact ⟨by rw [List.map_cons, List.map_cons, e2], .cons hd h2⟩
        · rw [if_neg c, if_neg c]
          obtain ⟨a, b⟩ := putD_names (f := f) hd e2 h2
          exact ⟨by rw [List.map_cons, List.map_cons, a], .cons h1 b⟩
theorem lookup_rel {K : PySem.W.Frag} {F : Hp} {A : List Addr} {f : Str} : ∀ {fs : List (Str × D)} {fvs : List (Str × V)}, fvs.map (·.1) = fs.map (·.1) → DatL K F A (fs.map (·.2)) (fvs.map (·.2)) →
    (∀ d, fs.lookup f = some d → ∃ v, fvs.lookup f = some v ∧ Dat K F A d v) ∧ (fs.lookup f = none → fvs.lookup f = none)
  | [], fvs, hn, hv => by
    have e : fvs = [] := List.map_eq_nil_iff.mp hn
    subst e
    exact ⟨(fun _ h => by cases h), fun _ => rfl⟩
  | (g, z) :: r, fvs, hn, hv => by
    cases fvs with
    | nil => cases hn
    | cons p q =>
      obtain ⟨g', u⟩ := p
      have e1 : g' = g := (List.cons.inj hn).1
      have e2 : q.map (·.1) = r.map (·.1) := (List.cons.inj hn).2
      subst e1
      cases hv with
      | cons h1 h2 =>
        rw [List.lookup_cons, List.lookup_cons]
        cases c : f == g' with
        | true => exact ⟨fun d e => by cases e; exact ⟨_, rfl, h1⟩, fun e => nomatch e⟩
        | false => exact lookup_rel e2 h2
theorem ins_at {K : PySem.W.Frag} {B : List Addr} {H : Hp} {A : List Addr} {s : Sto} {l : Nat} {a C : Addr} {c : Str} {fs : List (Str × D)} (R : RepS K B H A s) (hA : A[l]? = some a) (hl : s[l]? = some (some (.ins c fs))) (hC : ClsN K c C) :
    ∃ dx fvs, H a = some (.ins C dx fvs) ∧ fvs.map (·.1) = fs.map (·.1) ∧ DatL K (Fz B H A s) A (fs.map (·.2)) (fvs.map (·.2)) := by
  obtain ⟨a', ha', C', dx, fvs, hn, h1, h2, h3⟩ := R.ob l _ hl
  rw [hA] at ha'; cases ha'
  have e := hC.eq hn
  subst e
  exact ⟨dx, fvs, h1, h2, h3⟩
section
variable {X : DX} {pos pos' p apos : Pos} {e o value : Expr} {es : List Expr} {te to tv : ED} {t : AD} {c f m x : Str}
/-- e.f, an attribute of an instance of the class c -/
def dFld (c f : Str) (te : ED) : ED := fun env s Q => te env s fun x s1 => ∃ l fs v, x = .ref l ∧ s1[l]? = some (some (.ins c fs)) ∧ fs.lookup f = some v ∧ Q v s1
theorem mono_fld (m : Mono te) : Mono (dFld c f te) := fun _ _ _ _ g h => m _ _ _ _ (fun _ _ ⟨l, fs, v, e1, e2, e3, q⟩ => ⟨l, fs, v, e1, e2, e3, g _ _ q⟩) h
theorem pd_fld (hc : HasF X.K c f) (he : PD X e te) (hb : attributeBase e f X.env (eval e X.env) = eval e X.env := by rfl) : PD X (.Attribute e f pos) (dFld c f te) := by
  obtain ⟨C, hC, hn⟩ := hc
  refine ⟨pe_imp (pe_fld he.pe hb) fun σ H Q ⟨env, s, A, B, w, h⟩ => ?_, mono_fld he.mono⟩
  refine rdE_go he.mono w h fun x s1 v H1 A1 q1 w1 e1 dv => ?_
  obtain ⟨l, fs, z, rfl, hl, hz, q⟩ := q1
  cases dv with
  | ref hA =>
    obtain ⟨dx, fvs, h1, h2, h3⟩ := ins_at w1.rs hA hl hC
    obtain ⟨u, hu, du⟩ := (lookup_rel h2 h3).1 z hz
    exact ⟨_, C, dx, fvs, u, rfl, h1, hC.c, hn, hu, q _ _ _ w1.rs e1 du⟩
/-- o.f = value -/
def dSetF (c f : Str) (to tv : ED) : SD := fun E env s => tv env s fun y s1 => to env s1 fun x s2 => ∃ l fs, x = .ref l ∧ s2[l]? = some (some (.ins c fs)) ∧ fs.length < 1000 ∧ E.nx env (s2.set l (some (.ins c (putD f y fs))))
theorem mono_setF (mo : Mono to) (mv : Mono tv) : MonoS (dSetF c f to tv) := fun _ _ _ _ le h => mv _ _ _ _ (fun _ _ h => mo _ _ _ _ (fun _ _ ⟨l, fs, e1, e2, e3, q⟩ => ⟨l, fs, e1, e2, e3, le.nx _ _ q⟩) h) h
theorem write_ins {K : PySem.W.Frag} {B : List Addr} {H : Hp} {A : List Addr} {s : Sto} {l : Nat} {a C dx : Addr} {c f : Str} {y : D} {v : V} {fs : List (Str × D)} {fvs : List (Str × V)} (R : RepS K B H A s) (hA : A[l]? = some a) (hl : s[l]? = some (some (.ins c fs))) (hC : ClsN K c C) (hn : fvs.map (·.1) = fs.map (·.1)) (hv : DatL K (Fz B H A s) A (fs.map (·.2)) (fvs.map (·.2))) (dy : Dat K (Fz B H A s) A y v) :
    RepS K B (upd H a (.ins C dx (putF f v fvs))) A (s.set l (some (.ins c (putD f y fs)))) ∧ Ext B H A s (upd H a (.ins C dx (putF f v fvs))) A (s.set l (some (.ins c (putD f y fs)))) := by
  obtain ⟨n1, n2⟩ := putD_names (f := f) dy hn hv
  exact R.write (o := .ins C dx (putF f v fvs)) (mo' := .ins c (putD f y fs)) hl hA ⟨C, dx, _, hC.n, upd_same, n1, n2⟩
theorem psd_fld (hc : HasF X.K c f) (ho : PD X o to) (hv : PD X value tv) (hs : swapsWith value (some (.Attribute o f pos')) pos.line X.env = pure false := by rfl) : PSD X (.Assign [.Attribute o f pos'] value pos) (dSetF c f to tv) := by
  obtain ⟨C, hC, hn⟩ := hc
  refine ⟨ps_imp (ps_fld ho.pe hv.pe hs) fun D σ H ⟨env, s, A, B, w, h⟩ => ?_, mono_setF ho.mono hv.mono⟩
  refine rdE_go hv.mono w h fun y s1 v H1 A1 q1 w1 e1 dv => ?_
  refine rdE_go ho.mono w1 q1 fun x s2 u H2 A2 q2 w2 e2 du => ?_
  obtain ⟨l, fs, rfl, hl, hlen, q⟩ := q2
  cases du with
  | ref hA =>
    obtain ⟨dx, fvs, h1, h2, h3⟩ := ins_at w2.rs hA hl hC
    obtain ⟨r3, e3⟩ := write_ins (f := f) (dx := dx) w2.rs hA hl hC h2 h3 (dv.ext e2)
    have hlen' : fvs.length < 1000 := by
      have := congrArg List.length h2
      rw [List.length_map, List.length_map] at this
      omega
    exact ⟨_, C, dx, fvs, rfl, h1, hC.c, hn, hlen', q _ _ _ r3 ((e1.trans e2).trans e3) (w2.to r3 e3).re⟩
/-- a method of the class c that keeps its promise -/
def KnM (P : Program) (w : World) (K : PySem.W.Frag) (mg : Str → Option Value) (base : Heap) (CX : CXT) (c m : Str) (k : Nat) (ps : List Str) (sp : SpD) : Prop :=
  ∃ (C f : Addr) (fd : FuncData), ClsN K c C ∧ Meth K C m f ∧ FnD P w K mg base CX k f fd ps sp ∧ Binds K fd ps []
def tMethG (K : PySem.W.Frag) (mg : Str → Option Value) (C : Addr) (m : Str) (sp : SpD) (dvs : List V) (E : L2.St → XK) (ta : TE) (t : TA) : TE := fun σ H Q => ta σ H fun x H1 => ∃ a dx fs, x = .ref a ∧ H1 a = some (.ins C dx fs) ∧ fs.lookup m = none ∧
  t σ H1 fun vs H2 => liftSp K mg sp (x :: (vs ++ dvs)) H2 Q (E σ)
theorem pe_methG {X : Cx} {CX : CXT} {E : L2.St → XK} {C f : Addr} {fd : FuncData} {ps : List Str} {sp : SpD} {k : Nat} {dvs : List V} {ds : List Value} {ta : TE} {t : TA} {pl : Sem Bool} (he : PE X o ta) (c : Cls X.K C) (hm : Meth X.K C m f) (F : FnD X.prog X.w X.K X.mg X.base CX k f fd ps sp) (hr : RoomG k X.A) (hb : Binds X.K fd ps ds) (hd : Vals dvs ds) (hx : ∀ σ, PassesAt CX X σ (E σ)) (ha : PA X (e :: es) t)
    (hst : starEach (e :: es) X.env = (false, eval e X.env) :: starEach es X.env) (hpl : (backTo pos (starEach es X.env)).any (·.1) = false)
    (ht : eval (.Call (.Attribute o m apos) (e :: es) [] pos) X.env = (do
      let ov ← eval o X.env
      standAt apos.atName
      let (f, first) ← holding [ov] (getMethod ov m pl)
      callWith pos f first (backTo pos (starEach (e :: es) X.env)) (backToKw pos (keywordEach [] X.env)))) :
    PE X (.Call (.Attribute o m apos) (e :: es) [] pos) (tMethG X.K X.mg C m sp dvs E ta t) := by
  refine ⟨fun pins s σ H Q I h => ?_⟩
  refine PySem.W.methodCall_KW (pl := pl) (thn (he.run pins s σ H _ I h) fun u s1 ⟨x, H1, I1, rx, a, dx, fs, ex, ea, l, q⟩ => ?_) ht
  subst ex
  obtain rfl : u = Value.ref a := rx
  refine getmeth_ok I1 ea c hm l ?_
  refine PySem.W.callWith_K (first := [.ref a]) (h₀ := X.base) I.ok.mod.kin hm.kp (thn (ha.run pos pins s1 σ H1 _ I1 q) fun us s2 z => ?_) hst hpl
  obtain ⟨vs, H2, J, r, q2⟩ := z
  have r2 : Vals (.ref a :: (vs ++ dvs)) (.ref a :: (us ++ ds)) := .cons rfl (r.append hd)
  exact ⟨J.kIn, F.go hr (hx σ) J (hb s2 (.ref a :: us) J.kIn (r2.length.symm.trans (liftSp.len F.len q2))) r2 q2⟩
/-- o.m(..), dds: the defaults -/
def dMeth (W : WXD) (c m : Str) (sp : SpD) (dds : List D) (to : ED) (t : AD) : ED := fun env s Q => to env s fun x s1 => ∃ l fs, x = .ref l ∧ s1[l]? = some (some (.ins c fs)) ∧ fs.lookup m = none ∧ t env s1 fun xs s2 => sp (.ref l :: (xs ++ dds)) s2 Q fun y fs s' => W y fs env s'
theorem mono_meth {W : WXD} {sp : SpD} {dds : List D} (ms : MonoSp sp) (mo : Mono to) (mt : Mono t) : Mono (dMeth W c m sp dds to t) := fun _ _ _ _ g h => mo _ _ _ _ (fun _ _ ⟨l, fs, e1, e2, e3, q⟩ => ⟨l, fs, e1, e2, e3, mt _ _ _ _ (fun _ _ q => ms _ _ _ _ _ _ g (fun _ _ _ h => h) q) q⟩) h
section
variable {k : Nat} {ps : List Str} {sp : SpD} {ds : List Value} {dvs : List V} {dds : List D}
theorem meth_rd {X : DX} {C : Addr} {E : L2.St → XK} {tA : TA} (hA' : ∀ σ H Q, rdA X.kk t σ H Q → tA σ H Q) (W : WXD) (hC : ClsN X.K c C) (ms : MonoSp sp) (mo : Mono to) (mt : Mono t) (hdd : ∀ (F : Hp) (A : List Addr), DatL X.K F A dds dvs)
    (pass : ∀ (env : En) (σ : L2.St) (s1 : Sto) (B : List Addr) (H1 : Hp) (A1 : List Addr) (H : Hp) (A : List Addr) (s : Sto) y fs s', Wo X.kk B H1 A1 s1 env σ → W y fs env s' → PostX X.K X.mg B H1 A1 s1 (E σ) y fs s')
    (σ : L2.St) (H : Hp) (Q : VK) (h : rdE X.kk (dMeth W c m sp dds to t) σ H Q) : tMethG X.K X.mg C m sp dvs E (rdE X.kk to) tA σ H Q := by
  obtain ⟨env, s, A, B, w, h⟩ := h
  refine rdE_go mo w h fun x s1 v H1 A1 q1 w1 e1 dv => ?_
  obtain ⟨l, fs, rfl, hl, hm, q⟩ := q1
  cases dv with
  | ref hA =>
    obtain ⟨dx, fvs, h1, h2, h3⟩ := ins_at w1.rs hA hl hC
    refine ⟨_, dx, fvs, rfl, h1, (lookup_rel h2 h3).2 hm, hA' _ _ _ (rdA_go mt w1 q fun xs s2 vs H2 A2 q2 w2 e2 dvs => ?_)⟩
    exact ⟨.ref l :: (xs ++ dds), s2, A2, B, w2.rs, .cons (.ref (e2.pre _ _ hA)) (dvs.append (hdd _ _)), ms _ _ _ _ _ _ (fun d s' q => PostE.from (e1.trans e2) q) (fun y fs s' h => pass env σ s2 B H2 A2 H A s y fs s' w2 h) q2⟩
theorem pd_methN {X : DX} (c' : KnM X.prog X.w X.K X.mg X.base CX0 c m k ps sp) (hr : RoomG k X.A) (ho : PD X o to) (ha : PAD X (e :: es) t) (pl : Sem Bool)
    (ht : eval (.Call (.Attribute o m apos) (e :: es) [] pos) X.env = (do
      let ov ← eval o X.env
      standAt apos.atName
      let (f, first) ← holding [ov] (getMethod ov m pl)
      callWith pos f first (backTo pos (starEach (e :: es) X.env)) (backToKw pos (keywordEach [] X.env))) := by rfl)
    (hst : starEach (e :: es) X.env = (false, eval e X.env) :: starEach es X.env := by rfl) (hpl : (backTo pos (starEach es X.env)).any (·.1) = false := by rfl) :
    PD X (.Call (.Attribute o m apos) (e :: es) [] pos) (dMeth noW c m sp [] to t) := by
  obtain ⟨C, f, fd, hC, hm, F, hb⟩ := c'
  exact ⟨pe_imp (pe_methG (E := fun _ _ _ _ => False) (pl := pl) ho.pe hC.c hm F hr hb .nil (fun σ pins H s e s' I c => L2.pass0 pins σ H s e s' I c) ha.pa hst hpl ht)
    (meth_rd (fun _ _ _ h => h) noW hC F.mono ho.mono ha.mono (fun _ _ => .nil) fun env σ s1 B H1 A1 H A s y fs s' w1 h => h.elim), mono_meth F.mono ho.mono ha.mono⟩
end
end
end Dl
set_option Elab.async false
set_option linter.all false
set_option autoImplicit false
set_option maxRecDepth 100000
set_option maxHeartbeats 4000000
namespace Dl
open PySem PySem.Spec PyProof.Rows L2
/-- what isinstance says of the class: of plain things false; of an exception by its class's name -/
structure IsoX (K : PySem.W.Frag) (cv : Value) (tab : Str → Option Bool) : Prop where
  b : ∀ t ∈ ["NoneType", "bool", "int", "str", "tuple", "list", "dict"], PySem.W.kitOne K (.type t) cv = some false
  x : ∀ y r, tab y = some r → ∃ D : Addr, PySem.W.nsIn K mainGlobals y = some (some (.ref D)) ∧ ExcC K D ∧ PySem.W.kitOne K (.ref D) cv = some r
end Dl
set_option Elab.async false
set_option linter.all false
set_option autoImplicit false
set_option maxRecDepth 100000
set_option maxHeartbeats 4000000
namespace Dl
open PySem PySem.Spec PyProof.Rows L2
end Dl
set_option Elab.async false
set_option linter.all false
set_option autoImplicit false
set_option maxRecDepth 100000
set_option maxHeartbeats 4000000
namespace Dl
open PySem PySem.Spec PyProof.Rows L2
/-- the classes of a tuple with their tables -/
inductive IsoL (K : PySem.W.Frag) : List V → List Value → List (Str → Option Bool) → Prop
  | nil : IsoL K [] [] []
  | cons {c : V} {cv : Value} {t : Str → Option Bool} {cs : List V} {ws : List Value} {ts : List (Str → Option Bool)} : ClsV c cv → IsoX K cv t → IsoL K cs ws ts → IsoL K (c :: cs) (cv :: ws) (t :: ts)
theorem IsoL.len {K : PySem.W.Frag} {cs : List V} {ws : List Value} {ts : List (Str → Option Bool)} (h : IsoL K cs ws ts) : cs.length = ts.length := by
  induction h with
  | nil => rfl
  | cons _ _ _ ih => rw [List.length_cons, List.length_cons, ih]
theorem IsoL.any {K : PySem.W.Frag} {cs : List V} {ws : List Value} {ts : List (Str → Option Bool)} (h : IsoL K cs ws ts) {y : Str} {D : Addr} (hn : PySem.W.nsIn K mainGlobals y = some (some (.ref D))) (hs : ∀ t ∈ ts, (t y).isSome = true) : PySem.W.kitAny K (.ref D) ws = some (ts.any fun t => (t y).getD false) := by
  induction h with
  | nil => exact kitAny_nil
  | @cons c cv t cs ws ts h1 h2 h3 ih =>
    obtain ⟨b, hb⟩ := Option.isSome_iff_exists.mp (hs t List.mem_cons_self)
    obtain ⟨D', hn', _, hk⟩ := h2.x y b hb
    rw [hn] at hn'; cases hn'
    refine kitAny_cons hk (fun e => ?_) fun e => ?_
    · rw [List.any_cons, hb, e]
      exact (ih fun t' ht => hs t' (List.mem_cons_of_mem _ ht)).trans (by simp)
    · rw [List.any_cons, hb, e]; rfl
end Dl
set_option Elab.async false
set_option linter.all false
set_option autoImplicit false
set_option maxRecDepth 100000
set_option maxHeartbeats 1000000
namespace Dl
open PySem PySem.Spec PyProof.Rows L2
end Dl
set_option Elab.async false
set_option linter.all false
set_option autoImplicit false
set_option maxRecDepth 100000
set_option maxHeartbeats 4000000
namespace Dl
open PySem PySem.Spec PyProof.Rows L2
/-- a method where it stands -/
def AtM (K : PySem.W.Frag) (c m qual : Str) (st : Stmt) (ps : List Str) : Prop := ∃ (C f : Addr) (fd : FuncData), ClsN K c C ∧ Meth K C m f ∧ Fun K m qual st f fd ∧ Binds K fd ps []
theorem KnM.mk {P : Program} {w : World} {K : PySem.W.Frag} {mg : Str → Option Value} {base : Heap} {c m qual : Str} {st : Stmt} {N ps : List Str} {k : Nat} {sp : SpD} {tb : SD} (a : AtM K c m qual st ps) (S : FnScope N ps (defScope st)) (mono : MonoSp sp)
    (len : ∀ ds s Q E, sp ds s Q E → ds.length = ps.length)
    (body : ∀ (f : Addr) (cdv : Value) (A : Around) (outer : List PySem.Env) (s : Shared) (H : Hp) (E : XK), RoomG k (A.deeper (envOfC qual (defScope st) s.heap.objs.size f cdv)) → PSsD (dx0 (cxOf CX0 P w K mg base N qual (defScope st) f cdv A outer s H E).nox) (defBody st) tb)
    (h : ∀ ds s Q E, sp ds s Q E → tb (endsOf Q) (envD N ds) s) : KnM P w K mg base CX0 c m (k + 1) ps sp := by
  obtain ⟨C, f, fd, hC, hm, F, hb⟩ := a
  exact ⟨C, f, fd, hC, hm, fnD F S mono len (body f) h, hb⟩
/-- a class with its __init__ -/
def AtI (K : PySem.W.Frag) (mg : Str → Option Value) (c qual : Str) (st : Stmt) (ps : List Str) : Prop := ∃ (C f : Addr) (fd : FuncData), ClsN K c C ∧ mg c = some (.ref C) ∧ Mk K C f ∧ Fun K "__init__" qual st f fd ∧ Binds K fd ps []
def KnI (P : Program) (w : World) (K : PySem.W.Frag) (mg : Str → Option Value) (base : Heap) (c : Str) (k : Nat) (ps : List Str) (sp : SpD) : Prop := ∃ (C f : Addr) (fd : FuncData), ClsN K c C ∧ mg c = some (.ref C) ∧ Mk K C f ∧ FnD P w K mg base CX0 k f fd ps sp ∧ Binds K fd ps []
theorem KnI.mk {P : Program} {w : World} {K : PySem.W.Frag} {mg : Str → Option Value} {base : Heap} {c qual : Str} {st : Stmt} {N ps : List Str} {k : Nat} {sp : SpD} {tb : SD} (a : AtI K mg c qual st ps) (S : FnScope N ps (defScope st)) (mono : MonoSp sp)
    (len : ∀ ds s Q E, sp ds s Q E → ds.length = ps.length)
    (body : ∀ (f : Addr) (cdv : Value) (A : Around) (outer : List PySem.Env) (s : Shared) (H : Hp) (E : XK), RoomG k (A.deeper (envOfC qual (defScope st) s.heap.objs.size f cdv)) → PSsD (dx0 (cxOf CX0 P w K mg base N qual (defScope st) f cdv A outer s H E).nox) (defBody st) tb)
    (h : ∀ ds s Q E, sp ds s Q E → tb (endsOf Q) (envD N ds) s) : KnI P w K mg base c (k + 1) ps sp := by
  obtain ⟨C, f, fd, hC, hg, hm, F, hb⟩ := a
  exact ⟨C, f, fd, hC, hg, hm, fnD F S mono len (body f) h, hb⟩
theorem RoomG.make {k : Nat} {A : Around} (r : RoomG (k + 1) A) (C : Addr) (us : List Value) (kw : List (Str × Value)) : RoomG k (A.under (.builtin "type.__call__" ⟨.ref C :: us, kw⟩)) := ⟨r.r.make C us kw, r.g⟩
end Dl
set_option Elab.async false
set_option linter.all false
set_option autoImplicit false
set_option maxRecDepth 100000
set_option maxHeartbeats 4000000
namespace Dl
open PySem PySem.Spec PyProof.Rows L2
end Dl
set_option Elab.async false
set_option linter.all false
set_option autoImplicit false
set_option maxRecDepth 100000
set_option maxHeartbeats 4000000
namespace Dl
open PySem PySem.Spec PyProof.Rows L2
open AutoSeq1 (wpAny_loadPart')
end Dl
set_option Elab.async false
set_option linter.all false
set_option autoImplicit false
set_option maxRecDepth 100000
set_option maxHeartbeats 4000000
namespace Dl
open PySem PySem.Spec PyProof.Rows L2
structure FunKI (K : PySem.W.Frag) (x qual : Str) (st : Stmt) (b : Str) (i : Int) (f : Addr) (fd : FuncData) : Prop where
  ex : ∃ (oc : Value) (od : Option Addr) (Dx : Addr) (doc pm : Value) (an : Option Addr) (cdv ct : Value) (osl : Array (Option Value)) (t : Tok),
    fd = PySem.W.fnOf x qual (defArgs st) (defBody st) (defScope st) .none (.ref Dx) doc pm an cdv ct ∧ K.lookup f = some ⟨oc, od, .func fd, osl⟩ ∧ PySem.W.codeIn K cdv qual = true ∧ PySem.W.nsIn K Dx b = some (some (.int i t))
  kp : PySem.W.keepIn K (.ref f) = true
theorem FunKI.fun {K : PySem.W.Frag} {x qual b : Str} {i : Int} {st : Stmt} {f : Addr} {fd : FuncData} (F : FunKI K x qual st b i f fd) : Fun K x qual st f fd := by
  obtain ⟨oc, od, Dx, doc, pm, an, cdv, ct, osl, t, h1, h2, h3, _⟩ := F.ex
  exact ⟨⟨oc, od, .ref Dx, doc, pm, an, cdv, ct, osl, h1, h2, h3⟩, F.kp⟩
theorem FunKI.funD {K : PySem.W.Frag} {x qual b : Str} {i : Int} {st : Stmt} {f : Addr} {fd : FuncData} (F : FunKI K x qual st b i f fd) : FunD K x qual (defArgs st) (defBody st) (defScope st) [] [(b, V.int i)] f fd := by
  obtain ⟨oc, od, Dx, doc, pm, an, cdv, ct, osl, t, h1, h2, h3, h4⟩ := F.ex
  refine ⟨⟨oc, od, .none, .ref Dx, doc, pm, an, cdv, ct, osl, h1, h2, h3, .inl ⟨rfl, rfl⟩, .inr ⟨Dx, rfl, fun q hq => ?_⟩⟩, F.kp⟩
  rw [List.mem_singleton.mp hq]
  exact ⟨_, h4, ⟨_, rfl⟩⟩
structure KwBI (K : PySem.W.Frag) (fd : FuncData) (ps : List Str) (b : Str) (i : Int) : Prop where
  off : ∃ ds, Vals [V.int i] ds ∧ Binds K fd ps ds
  on : KBn K fd ps (ps.length - 1) [b] (fun us ws => us ++ ws) (fun vs zs => vs ++ zs)
/-- a method of the class c that keeps its promise; its last parameter is asked by a keyword -/
def KnMK (P : Program) (w : World) (K : PySem.W.Frag) (mg : Str → Option Value) (base : Heap) (CX : CXT) (c m b : Str) (i : Int) (k : Nat) (ps : List Str) (sp : SpD) : Prop :=
  ∃ (C f : Addr) (fd : FuncData), ClsN K c C ∧ Meth K C m f ∧ FnD P w K mg base CX k f fd ps sp ∧ KwBI K fd ps b i
def AtMK (K : PySem.W.Frag) (c m qual b : Str) (i : Int) (st : Stmt) (ps : List Str) : Prop := ∃ (C f : Addr) (fd : FuncData), ClsN K c C ∧ Meth K C m f ∧ Fun K m qual st f fd ∧ KwBI K fd ps b i
theorem KnMK.mk {P : Program} {w : World} {K : PySem.W.Frag} {mg : Str → Option Value} {base : Heap} {c m qual b : Str} {i : Int} {st : Stmt} {N ps : List Str} {k : Nat} {sp : SpD} {tb : SD} (a : AtMK K c m qual b i st ps) (S : FnScope N ps (defScope st)) (mono : MonoSp sp)
    (len : ∀ ds s Q E, sp ds s Q E → ds.length = ps.length)
    (body : ∀ (f : Addr) (cdv : Value) (A : Around) (outer : List PySem.Env) (s : Shared) (H : Hp) (E : XK), RoomG k (A.deeper (envOfC qual (defScope st) s.heap.objs.size f cdv)) → PSsD (dx0 (cxOf CX0 P w K mg base N qual (defScope st) f cdv A outer s H E).nox) (defBody st) tb)
    (h : ∀ ds s Q E, sp ds s Q E → tb (endsOf Q) (envD N ds) s) : KnMK P w K mg base CX0 c m b i (k + 1) ps sp := by
  obtain ⟨C, f, fd, hC, hm, F, hb⟩ := a
  exact ⟨C, f, fd, hC, hm, fnD F S mono len (body f) h, hb⟩
theorem pt_of_pc {X : Cx} {op : CmpOp} {a b : Expr} {t : TE} {pos : Pos} (h : PC X op a b t) (hm : behindInMarks op b = false) : PT X (.Compare a [op] [b] pos) (tTest t) := by
  refine ⟨fun pins s σ H Q I q => ?_⟩
  refine wpAny_isTrue_Compare1 (thn (h.run pins s σ H _ I q) fun v s1 h1 => thn h1 fun u s2 h2 => thn h2 fun c s3 ⟨z, H3, I3, r3, k, e, q3⟩ => ?_) hm
  subst e
  cases r3
  exact wpAny_truthy_bool ⟨H3, I3, q3⟩
section
variable {X : DX} {pos : Pos} {o i : Expr} {td ty : ED}
theorem ptd_dnotin (hu : X.A.units + 64 < cLine) (hi : PD X i ty) (ho : PD X o td) (hm : behindInMarks .NotIn o = false) : PTD X (.Compare i [.NotIn] [o] pos) (dTest (dDIn Bool.not ty td)) :=
  ⟨pt_imp (pt_of_pc (pc_dnotin (by omega) hi.pe ho.pe) hm) fun σ H Q ⟨env, s, A, B, w, h⟩ => rdE_go hi.mono w h fun y s1 u H1 A1 h1 w1 e1 dy => rdE_go ho.mono w1 h1 fun x s2 v H2 A2 ⟨dv, z, hd, hg, q⟩ w2 e2 dx => by
    obtain ⟨a, rfl, at'⟩ := dictD_rd w2.rs dx hd
    obtain ⟨r, g, z1, z2⟩ := dget_rd w2.rs at' (dy.ext e2) hg
    refine ⟨a, r, rfl, g, ?_⟩
    rw [isSome_of z1 z2]
    obtain ⟨k, ek, q⟩ := q
    cases ek
    exact ⟨_, rfl, q _ _ w2.rs (e1.trans e2)⟩, mono_test (mono_din hi.mono ho.mono)⟩
end
end Dl
set_option Elab.async false
set_option linter.all false
set_option autoImplicit false
set_option maxRecDepth 100000
set_option maxHeartbeats 4000000
namespace Dl
open PySem PySem.Spec PyProof.Rows L2
end Dl
set_option Elab.async false
set_option linter.all false
set_option autoImplicit false
set_option maxRecDepth 100000
set_option maxHeartbeats 4000000
namespace Dl
open PySem PySem.Spec PyProof.Rows L2
theorem RoomG.u65 {k : Nat} {A : Around} (r : RoomG k A) : A.units + 65 < cLine := by have := r.r.un; omega
end Dl
set_option Elab.async false
set_option linter.all false
set_option autoImplicit false
set_option maxRecDepth 100000
set_option maxHeartbeats 1000000
namespace Dl
open PySem PySem.Spec PyProof.Rows L2
mutual
/-- ints, texts, tuples of these -/
def ptD : D → Bool
  | .int _ => true
  | .str z => PyData.strOk z
  | .tup xs => ptL xs
  | _ => false
def ptL : List D → Bool
  | [] => true
  | x :: xs => ptD x && ptL xs
end
mutual
theorem pt_seqs : ∀ x : D, ptD x = true → seqs x = true
  | .int _, _ => rfl
  | .str _, _ => rfl
  | .tup xs, h => ptL_seqs xs h
  | .non, h => by cases h
  | .bl _, h => by cases h
  | .lst _, h => by cases h
  | .frl _, h => by cases h
  | .dk _ _, h => by cases h
  | .dt _ _, h => by cases h
  | .ref _, h => by cases h
  | .exc _ _ _, h => by cases h
theorem ptL_seqs : ∀ xs : List D, ptL xs = true → seqsL xs = true
  | [], _ => rfl
  | x :: xs, h => by
    have h : (ptD x && ptL xs) = true := h
    obtain ⟨h1, h2⟩ := Bool.and_eq_true_iff.mp h
    show (seqs x && seqsL xs) = true
    rw [pt_seqs x h1, ptL_seqs xs h2]; rfl
end
mutual
theorem py_inj : ∀ x y : D, ptD x = true → ptD y = true → pyD x = pyD y → x = y
  | .int i, y, _, hy, e => by
    cases y with
    | int j => simp only [pyD] at e; injection e with e; rw [e]
    | str _ => simp only [pyD] at e; cases e
    | tup _ => simp only [pyD] at e; cases e
    | _ => cases hy
  | .str i, y, _, hy, e => by
    cases y with
    | str j => simp only [pyD] at e; injection e with e; rw [e]
    | int _ => simp only [pyD] at e; cases e
    | tup _ => simp only [pyD] at e; cases e
    | _ => cases hy
  | .tup xs, y, hx, hy, e => by
    cases y with
    | tup ys =>
      simp only [pyD] at e
      injection e with e
      rw [py_injL xs ys hx hy e]
    | str _ => simp only [pyD] at e; cases e
    | int _ => simp only [pyD] at e; cases e
    | _ => cases hy
  | .non, _, h, _, _ => by cases h
  | .bl _, _, h, _, _ => by cases h
  | .lst _, _, h, _, _ => by cases h
  | .frl _, _, h, _, _ => by cases h
  | .dk _ _, _, h, _, _ => by cases h
  | .dt _ _, _, h, _, _ => by cases h
  | .ref _, _, h, _, _ => by cases h
  | .exc _ _ _, _, h, _, _ => by cases h
theorem py_injL : ∀ xs ys : List D, ptL xs = true → ptL ys = true → pyL xs = pyL ys → xs = ys
  | [], [], _, _, _ => rfl
  | [], y :: ys, _, _, e => by simp only [pyL] at e; cases e
  | x :: xs, [], _, _, e => by simp only [pyL] at e; cases e
  | x :: xs, y :: ys, hx, hy, e => by
    have hx : (ptD x && ptL xs) = true := hx
    have hy : (ptD y && ptL ys) = true := hy
    obtain ⟨h1, h2⟩ := Bool.and_eq_true_iff.mp hx
    obtain ⟨h3, h4⟩ := Bool.and_eq_true_iff.mp hy
    simp only [pyL] at e
    obtain ⟨e1, e2⟩ := List.cons.inj e
    rw [py_inj x y h1 h3 e1, py_injL xs ys h2 h4 e2]
end
def minT (d : D) (ds : List D) : D := ds.foldl (fun a y => if PySem.W.dataLt (pyD y) (pyD a) then y else a) d
theorem py_minT : ∀ (ds : List D) (d : D), pyD (minT d ds) = PySem.W.minD (pyD d) (pyL ds)
  | [], d => by simp only [minT, PySem.W.minD, pyL, List.foldl_nil]
  | y :: ds, d => by
    have h := py_minT ds (if PySem.W.dataLt (pyD y) (pyD d) then y else d)
    have e : pyD (if PySem.W.dataLt (pyD y) (pyD d) then y else d) = if PySem.W.dataLt (pyD y) (pyD d) then pyD y else pyD d := by split <;> rfl
    simp only [minT, PySem.W.minD, pyL, List.foldl_cons] at h ⊢
    rw [h, e]
theorem minT_mem : ∀ (ds : List D) (d : D), minT d ds ∈ d :: ds
  | [], d => List.mem_cons_self
  | y :: ds, d => by
    have h := minT_mem ds (if PySem.W.dataLt (pyD y) (pyD d) then y else d)
    have e : minT d (y :: ds) = minT (if PySem.W.dataLt (pyD y) (pyD d) then y else d) ds := rfl
    rw [e]
    rcases List.mem_cons.mp h with h | h
    · rw [h]
      split
      · exact List.mem_cons_of_mem _ List.mem_cons_self
      · exact List.mem_cons_self
    · exact List.mem_cons_of_mem _ (List.mem_cons_of_mem _ h)
/-- a list of alike plain things, not deep -/
def MinOk (ds : List D) : Prop := ptL ds = true ∧ (∀ x ∈ pyL ds, ∀ y ∈ pyL ds, PySem.W.alike x y = true) ∧ PyData.depthAll (pyL ds) ≤ 50
theorem py_mem : ∀ {ds : List D} {x : PyData}, x ∈ pyL ds → ∃ d ∈ ds, x = pyD d
  | [], x, h => by simp only [pyL] at h; cases h
  | d :: ds, x, h => by
    simp only [pyL] at h
    rcases List.mem_cons.mp h with h | h
    · exact ⟨d, List.mem_cons_self, h⟩
    · obtain ⟨e, he, hx⟩ := py_mem h
      exact ⟨e, List.mem_cons_of_mem _ he, hx⟩
theorem py_get : ∀ (ds : List D) (i : Nat), (pyL ds)[i]? = (ds[i]?).map pyD
  | [], i => by simp [pyL]
  | d :: ds, 0 => by simp [pyL]
  | d :: ds, i + 1 => by simp only [pyL, List.getElem?_cons_succ]; exact py_get ds i
theorem pt_mem : ∀ {ds : List D} {d : D}, ptL ds = true → d ∈ ds → ptD d = true
  | x :: ds, d, h, hd => by
    have h : (ptD x && ptL ds) = true := h
    obtain ⟨h1, h2⟩ := Bool.and_eq_true_iff.mp h
    rcases List.mem_cons.mp hd with rfl | hd
    · exact h1
    · exact pt_mem h2 hd
theorem pt_non {d : D} (h : ptD d = true) : pyD d ≠ .none := fun e => by
  cases d with
  | int _ => simp only [pyD] at e; cases e
  | str _ => simp only [pyD] at e; cases e
  | tup _ => simp only [pyD] at e; cases e
  | _ => cases h
theorem valsU {xs : List V} {us : List Value} (r : Vals xs us) {i : Nat} {u : Value} (h : us[i]? = some u) : ∃ x, xs[i]? = some x ∧ RelV x u := by
  induction r generalizing i with
  | nil => cases h
  | cons a b ih =>
    cases i with
    | zero => rw [List.getElem?_cons_zero] at h; cases h; exact ⟨_, rfl, a⟩
    | succ i => exact ih (by simpa using h)
/-- min(l): a list of alike plain things -/
def rMinT : (K : PySem.W.Frag) → List V → Hp → VK → Prop := fun K vs H Q => ∃ (a : Addr) (F : Hp) (A0 : List Addr) (ws : List V) (d : D) (ds : List D), vs = [.ref a] ∧ Same F H ∧ SqL K H a ws ∧ DatL K F A0 (d :: ds) ws ∧ MinOk (d :: ds) ∧
  ∀ (i : Nat) (w : V), ws[i]? = some w → (d :: ds)[i]? = some (minT d ds) → Q w H
theorem cr_minT {X : Cx} (hc : X.calm = true) (hu : X.A.units + 64 < cLine) : CallR X (.builtin "min") (rMinT X.K) := by
  intro pins s σ H xs us Q I r h
  obtain ⟨a, F, A0, ws, d, ds, rfl, hF, sq, dl, ⟨p1, p2, p3⟩, q⟩ := h
  obtain rfl := Vals.ref1 r
  obtain ⟨its, rv, il⟩ := isList_of I sq
  obtain ⟨as, ra⟩ := readsL_of I hF (d :: ds) ws its (ptL_seqs _ p1) dl rv
  have ra' : ReadsAll s.heap its (pyD d :: pyL ds) as := by simpa only [pyL] using ra
  have p2' : ∀ x ∈ pyD d :: pyL ds, ∀ y ∈ pyD d :: pyL ds, PySem.W.alike x y = true := by simpa only [pyL] using p2
  have p3' : PyData.depthAll (pyD d :: pyL ds) ≤ 50 := by simpa only [pyL] using p3
  refine PySem.W.min_list_data (I.ok.hd hc) il (by simpa using ra') ⟨p2', fun x hx => ?_⟩ (by omega) fun i v h' tk bs hi r hk => ?_
  · have hx : x ∈ pyL (d :: ds) := by simpa only [pyL] using hx
    obtain ⟨e, he, rfl⟩ := py_mem hx
    exact pt_non (pt_mem p1 he)
  · have hi : its[i]? = some v := by simpa using hi
    obtain ⟨w, hw, rw_⟩ := valsU rv hi
    refine ⟨w, H, I.kept hk, rw_, q i w hw ?_⟩
    obtain ⟨e, he, de⟩ := dl.get' hw
    obtain ⟨bs2, r2, _⟩ := PySem.W.readsAll_at ra i v hi
    have hpe : (pyL (d :: ds)).getD i .none = pyD e := by rw [List.getD_eq_getElem?_getD, py_get, he]; rfl
    rw [hpe] at r2
    have hdet := (PyProof.Rows.reads_det (fun b o e _ => hk b o e) r2 r).1
    rw [← py_minT] at hdet
    have hmm := minT_mem ds d
    rw [he, py_inj e _ (pt_mem p1 (List.mem_of_getElem? he)) (pt_mem p1 hmm) hdet.symm]
open Classical in
noncomputable def minTF (s : Sto) : List D → Option D
  | [x] => match seqL s x with
    | some (d :: ds) => if MinOk (d :: ds) then some (minT d ds) else none
    | _ => none
  | _ => none
theorem callx_minT {X : Cx} (hc : X.calm = true) (hu : X.A.units + 64 < cLine) : CallX X (.builtin "min") minTF := by
  refine ⟨_, cr_minT hc hu, fun xs s vs H A B Q z R dv e q => ?_⟩
  unfold minTF at e
  split at e
  · rename_i x
    obtain ⟨v, rfl, dx⟩ := one_of dv
    split at e
    · rename_i d ds hs
      split at e
      · rename_i ok
        cases e
        obtain ⟨a, vs, rfl, h1, h2⟩ := of_seqL R dx hs
        refine ⟨a, Fz B H A s, A, vs, d, ds, rfl, fz_same, h1, h2, ok, fun i w hw hm => ?_⟩
        obtain ⟨w', hw', dw⟩ := h2.get hm
        rw [hw] at hw'
        cases hw'
        exact q.here R dw
      · cases e
    · cases e
  · cases e
open Classical in
theorem minT_f {s : Sto} {d : D} {ds : List D} (h : MinOk (d :: ds)) : minTF s [.lst (d :: ds)] = some (minT d ds) := by
  show (match seqL s (.lst (d :: ds)) with
    | some (d :: ds) => if MinOk (d :: ds) then some (minT d ds) else none
    | _ => none) = _
  rw [seqL_lst]
  dsimp only
  rw [if_pos h]
mutual
theorem eqv_pt : ∀ x y : D, ptD x = true → ptD y = true → (PyData.eqv (pyD x) (pyD y) = true ↔ x = y)
  | .int i, y, _, hy => by
    cases y with
    | int j => simp [pyD, PyData.eqv]
    | str _ => simp [pyD, PyData.eqv]
    | tup _ => simp [pyD, PyData.eqv]
    | _ => cases hy
  | .str i, y, _, hy => by
    cases y with
    | int j => simp [pyD, PyData.eqv]
    | str _ => simp [pyD, PyData.eqv]
    | tup _ => simp [pyD, PyData.eqv]
    | _ => cases hy
  | .tup xs, y, hx, hy => by
    cases y with
    | int j => simp [pyD, PyData.eqv]
    | str _ => simp [pyD, PyData.eqv]
    | tup ys =>
      have := eqv_ptL xs ys hx hy
      simp only [pyD, PyData.eqv]
      rw [this]
      simp
    | _ => cases hy
  | .non, _, h, _ => by cases h
  | .bl _, _, h, _ => by cases h
  | .lst _, _, h, _ => by cases h
  | .frl _, _, h, _ => by cases h
  | .dk _ _, _, h, _ => by cases h
  | .dt _ _, _, h, _ => by cases h
  | .ref _, _, h, _ => by cases h
  | .exc _ _ _, _, h, _ => by cases h
theorem eqv_ptL : ∀ xs ys : List D, ptL xs = true → ptL ys = true → (PyData.eqvAll (pyL xs) (pyL ys) = true ↔ xs = ys)
  | [], [], _, _ => by simp [pyL, PyData.eqvAll]
  | [], y :: ys, _, _ => by simp [pyL, PyData.eqvAll]
  | x :: xs, [], _, _ => by simp [pyL, PyData.eqvAll]
  | x :: xs, y :: ys, hx, hy => by
    have hx : (ptD x && ptL xs) = true := hx
    have hy : (ptD y && ptL ys) = true := hy
    obtain ⟨h1, h2⟩ := Bool.and_eq_true_iff.mp hx
    obtain ⟨h3, h4⟩ := Bool.and_eq_true_iff.mp hy
    have a := eqv_pt x y h1 h3
    have b := eqv_ptL xs ys h2 h4
    simp only [pyL, PyData.eqvAll, Bool.and_eq_true]
    rw [a, b]
    simp
end
mutual
theorem lay_pt : ∀ x : D, ptD x = true → (pyD x).canLay0 = true
  | .int _, _ => by simp [pyD, PyData.canLay0]
  | .str _, h => by simp only [pyD, PyData.canLay0]; exact h
  | .tup xs, h => by
    have := lay_ptL xs h
    simp only [pyD, PyData.canLay0]; exact this
  | .non, h => by cases h
  | .bl _, h => by cases h
  | .lst _, h => by cases h
  | .frl _, h => by cases h
  | .dk _ _, h => by cases h
  | .dt _ _, h => by cases h
  | .ref _, h => by cases h
  | .exc _ _ _, h => by cases h
theorem lay_ptL : ∀ xs : List D, ptL xs = true → PyData.canLayAll0 (pyL xs) = true
  | [], _ => by simp [pyL, PyData.canLayAll0]
  | x :: xs, hx => by
    have hx : (ptD x && ptL xs) = true := hx
    obtain ⟨h1, h2⟩ := Bool.and_eq_true_iff.mp hx
    simp only [pyL, PyData.canLayAll0, lay_pt x h1, lay_ptL xs h2, Bool.and_self]
end
section
variable {K : PySem.W.Frag} {B : List Addr} {H : Hp} {A : List Addr} {s : Sto}
mutual
theorem dp_pt : ∀ (x : D) {v : V}, ptD x = true → Dat K (Fz B H A s) A x v → Dp K H v (pyD x)
  | .int i, _, _, h => by cases h; exact .int i
  | .str z, _, _, h => by
    cases h with
    | str _ _ => exact .str z
  | .tup xs, _, p, h => by
    cases h with
    | tup h1 h2 => exact .tup (sqT_fz h1) (dpL_pt xs p h2)
  | .non, _, h, _ => by cases h
  | .bl _, _, h, _ => by cases h
  | .lst _, _, h, _ => by cases h
  | .frl _, _, h, _ => by cases h
  | .dk _ _, _, h, _ => by cases h
  | .dt _ _, _, h, _ => by cases h
  | .ref _, _, h, _ => by cases h
  | .exc _ _ _, _, h, _ => by cases h
theorem dpL_pt : ∀ (xs : List D) {vs : List V}, ptL xs = true → DatL K (Fz B H A s) A xs vs → DpAll K H vs (pyL xs)
  | [], _, _, h => by cases h; exact .nil
  | x :: xs, _, p, h => by
    have p : (ptD x && ptL xs) = true := p
    obtain ⟨h1, h2⟩ := Bool.and_eq_true_iff.mp p
    cases h with
    | cons d1 d2 => exact .cons (dp_pt x h1 d1) (dpL_pt xs h2 d2)
end
end
section
variable {pos p : Pos} {e : Expr} {te : ED}
/-- l.index(x), a plain list of plain tuples -/
def dIndexP (to : ED) (t : AD) : ED := fun env s Q => to env s fun x s1 => ∃ os : List D, x = .lst os ∧ ptL os = true ∧ PyData.depthAll (pyL os) ≤ 50 ∧ t env s1 fun ys s2 => ∃ (o : D) (i : Nat), ys = [o] ∧ os[i]? = some o ∧ (∀ m, m < i → os[m]? ≠ some o) ∧ Q (.int (i : Nat)) s2
theorem mono_indexP {to : ED} {t : AD} (mo : Mono to) (mt : Mono t) : Mono (dIndexP to t) := fun _ _ _ _ f h => mo _ _ _ _ (fun _ _ ⟨os, e, p1, p2, h⟩ => ⟨os, e, p1, p2, mt _ _ _ _ (fun _ _ ⟨o, i, e2, e3, e4, q⟩ => ⟨o, i, e2, e3, e4, f _ _ q⟩) h⟩) h
theorem dep_mem : ∀ {xs : List PyData} {x : PyData}, x ∈ xs → x.depth ≤ PyData.depthAll xs
  | y :: ys, x, h => by
    simp only [PyData.depthAll]
    rcases List.mem_cons.mp h with rfl | h
    · exact Nat.le_max_left _ _
    · exact Nat.le_trans (dep_mem h) (Nat.le_max_right _ _)
theorem pd_indexP {X : DX} {o : Expr} {es : List Expr} {to : ED} {t : AD} {apos cpos : Pos} (slot : Slot "list" "index" "list.index") (hty : typeOf (.builtin "list.index") = pure (.type "method_descriptor")) (hu : X.A.units + 65 < cLine) (ho : PD X o to) (ha : PAD X (e :: es) t)
    (hbase : attributeBase o "index" X.env (eval o X.env) = eval o X.env := by rfl)
    (hfew : ((backTo cpos (starEach (e :: es) X.env)).all (fun x => !x.1) && (backToKw cpos (keywordEach [] X.env)).all (fun x => x.1.isSome)
      && decide ((e :: es).length + ([] : List Keyword).length + (if ([] : List Keyword).isEmpty then 0 else 1) < 30)) = true := by rfl)
    (hline : (apos.endLine == cpos.line) = true := by rfl) (hs : starEach (e :: es) X.env = (false, eval e X.env) :: starEach es X.env := by rfl) (hplain : (backTo cpos (starEach es X.env)).any (·.1) = false := by rfl) :
    PD X (.Call (.Attribute o "index" apos) (e :: es) [] cpos) (dIndexP to t) := by
  refine ⟨pe_imp (pe_bm PySem.F.plainAttrs_list slot hty (mt_indexD hu) ho.pe ha.pa hbase hfew hline hs hplain) fun σ H Q ⟨env, s, A, B, w, h⟩ => ?_, mono_indexP ho.mono ha.mono⟩
  refine rdE_go ho.mono w h fun x s1 v H1 A1 q1 w1 e1 dv => ?_
  obtain ⟨os, rfl, p1, p2, q1⟩ := q1
  cases dv with
  | @lst a vs _ hv hd =>
    refine ⟨.inl ⟨rfl, _, .of (fz_of hv).1⟩, rdA_go ha.mono w1 q1 fun ys s2 ws H2 A2 q2 w2 e2 dw => ?_⟩
    obtain ⟨o, i, rfl, hi, hno, q⟩ := q2
    obtain ⟨y, rfl, dy⟩ := one_of dw
    have dv2 := (Dat.lst hv hd).ext e2
    have po := pt_mem p1 (List.mem_of_getElem? hi)
    cases dv2 with
    | lst hv2 hd2 =>
      refine ⟨_, y, pyD o, pyL os, i, pyD o, rfl, rfl, .lst (.of (fz_of hv2).1) (dpL_pt os p1 hd2), dp_pt o po dy, ?_, ?_, ?_, ?_, ?_, ?_⟩
      · have hd : (PyData.list (pyL os)).depth = PyData.depthAll (pyL os) + 1 := by simp only [PyData.depth]
        have hc : (PyData.list (pyL os)).canLay0 = true := by simp only [PyData.canLay0]; exact lay_ptL os p1
        unfold SeqAt.shaped
        rw [hc, Bool.true_and, decide_eq_true_iff, hd]
        omega
      · unfold SeqAt.shaped
        rw [lay_pt o po, Bool.true_and, decide_eq_true_iff]
        have hm : pyD o ∈ pyL os := List.mem_of_getElem? (by rw [py_get, hi]; rfl : (pyL os)[i]? = some (pyD o))
        have := dep_mem hm
        omega
      · rw [py_get, hi]; rfl
      · exact (eqv_pt o o po po).mpr rfl
      · intro m z' hm hz
        rw [py_get] at hz
        cases ho' : os[m]? with
        | none => rw [ho'] at hz; cases hz
        | some o' =>
          rw [ho'] at hz; cases hz
          have po' := pt_mem p1 (List.mem_of_getElem? ho')
          cases he : PyData.eqv (pyD o') (pyD o) with
          | false => rfl
          | true => exact absurd (by rw [ho', (eqv_pt o' o po' po).mp he]) (hno m hm)
      · exact q _ _ _ w2.rs (e1.trans e2) (.int _)
end
end Dl
set_option Elab.async false
set_option linter.all false
set_option autoImplicit false
set_option maxRecDepth 100000
set_option maxHeartbeats 1000000
namespace Dl
open PySem PySem.Spec PyProof.Rows L2
/-- c(..): the arguments, then the new instance, handed to __init__ with them -/
def dMakeA (c : Str) (sp : SpD) (t : AD) : ED := fun env s Q => t env s fun xs s1 => sp (.ref s1.length :: xs) (s1 ++ [some (.ins c [])]) (fun d s' => d = .non ∧ Q (.ref s1.length) s') fun _ _ _ => False
theorem mono_makeA {c : Str} {sp : SpD} {t : AD} (ms : MonoSp sp) (mt : Mono t) : Mono (dMakeA c sp t) := fun _ _ _ _ g h => mt _ _ _ _ (fun _ _ q => ms _ _ _ _ _ _ (fun _ _ ⟨e, q⟩ => ⟨e, g _ _ q⟩) (fun _ _ _ h => h) q) h
section
variable {k : Nat} {ps : List Str} {sp : SpD} {x : Str} {p pos : Pos} {e : Expr} {es : List Expr}
def tMakeG (K : PySem.W.Frag) (mg : Str → Option Value) (C : Addr) (sp : SpD) (t : TA) : TE := fun σ H Q => t σ H fun vs H1 => ∀ y dx, H1 y = none → H1 dx = none → dx ≠ y → liftSp K mg sp (.ref y :: vs) (upd (upd H1 dx (.own y)) y (.ins C dx [])) (fun v H2 => v = .non ∧ Q (.ref y) H2) fun _ _ _ => False
theorem pe_makeG {X : Cx} {C f : Addr} {fd : FuncData} {t : TA} (M : Mk X.K C f) (F : FnD X.prog X.w X.K X.mg X.base CX0 k f fd ps sp) (hr : RoomG (k + 1) X.A) (hg : Gl X x) (hm : X.mg x = some (.ref C)) (hb : Binds X.K fd ps []) (ha : PA X (e :: es) t) (hdb : (x == ("__debug__" : Str)) = false := by decide)
    (he : starEach (e :: es) X.env = (false, eval e X.env) :: starEach es X.env := by rfl) (hpl : (backTo pos (starEach es X.env)).any (·.1) = false := by rfl) :
    PE X (.Call (.Name x p) (e :: es) [] pos) (tMakeG X.K X.mg C sp t) := by
  refine ⟨fun pins s σ H Q I h => ?_⟩
  refine wpAny_Call_Name_kw (ld_glob I hg hm ?_ hdb)
  refine PySem.W.callWith_K (h₀ := X.base) I.ok.mod.kin M.kp (thn (ha.run pos pins s σ H _ I h) fun us s1 ⟨vs, H1, I1, r, q⟩ => ⟨I1.kIn, ?_⟩) he hpl
  have hq := q (s1.heap.objs.size + 1) s1.heap.objs.size (I1.hok.fresh (Nat.le_succ _)) (I1.hok.fresh (Nat.le_refl _)) (Nat.ne_of_lt (Nat.lt_succ_self _))
  have I2 := Inv.made (C := C) I1
  have r2 : Vals (V.ref (s1.heap.objs.size + 1) :: vs) (Value.ref (s1.heap.objs.size + 1) :: us ++ []) := by
    rw [List.append_nil]; exact .cons rfl r
  have hl : ((Value.ref (s1.heap.objs.size + 1) :: us) ++ ([] : List Value)).length = ps.length := by
    have e := liftSp.len F.len hq
    have e2 := r.length
    simp only [List.length_cons, List.append_nil] at e ⊢
    omega
  refine wpAny_call (make_map (f := f) I1.kIn M.makes M.init (beq_iff_eq.mp M.fn) (codeAny_mono (F.run _ X.stack _ _ ⟨Value.ref (s1.heap.objs.size + 1) :: us, []⟩ (Value.ref (s1.heap.objs.size + 1) :: us ++ []) _ _ (fun _ _ _ => False) (hr.make C us [])
    (I2.env0.make C us []) (hb _ (Value.ref (s1.heap.objs.size + 1) :: us) I2.kIn hl) r2 hq) fun r s' hq' => ?_))
  match r, hq' with
  | .error e, hq' => exact L2.pass0 pins σ H1 _ e s' I1 (by exact hq')
  | .ok (.ret u), hq' =>
    obtain ⟨v, H', I3, rv, ev, q3⟩ := I2.after hq'
    subst ev
    exact ⟨rv, ⟨V.ref (s1.heap.objs.size + 1), H', I3, rfl, q3⟩⟩
theorem pd_makeA {X : DX} {t : AD} (c' : KnI X.prog X.w X.K X.mg X.base x k ps sp) (hr : RoomG (k + 1) X.A) (hg : Gl X x) (ha : PAD X (e :: es) t) (hdb : (x == ("__debug__" : Str)) = false := by decide)
    (he : starEach (e :: es) X.env = (false, eval e X.env) :: starEach es X.env := by rfl) (hpl : (backTo pos (starEach es X.env)).any (·.1) = false := by rfl) : PD X (.Call (.Name x p) (e :: es) [] pos) (dMakeA x sp t) := by
  obtain ⟨C, f, fd, hC, hm, M, F, hb⟩ := c'
  refine ⟨pe_imp (pe_makeG M F hr hg hm hb ha.pa hdb he hpl) fun σ H Q ⟨env, s, A, B, w, h⟩ => ?_, mono_makeA F.mono ha.mono⟩
  refine rdA_go ha.mono w h fun xs s1 vs H1 A1 q w1 e0 dv y dx hy hdx hne => ?_
  obtain ⟨r1, e1, f1⟩ := w1.rs.laid (o := .own y) hdx
  have hy1 : upd H1 dx (.own y) y = none := by rw [upd_ne (Ne.symm hne)]; exact hy
  obtain ⟨r2, e2⟩ := r1.born (o := .ins C dx []) (mo := .ins x []) hy1 ⟨C, dx, [], hC.n, upd_same, rfl, .nil⟩
  have hA : (A1 ++ [y])[s1.length]? = some y := by rw [← w1.rs.len]; simp
  exact ⟨.ref s1.length :: xs, s1 ++ [some (.ins x [])], A1 ++ [y], B, r2, .cons (.ref hA) ((dv.ext e1).ext e2), F.mono _ _ _ _ _ _ (fun d s' ⟨hd, q⟩ v H' A' r e dv => by
    subst hd
    cases dv
    exact ⟨rfl, q _ _ _ r (e0.trans ((e1.trans e2).trans e)) (.ref (e.pre _ _ hA))⟩) (fun _ _ _ h => False.elim h) q⟩
end
theorem KnM.up {P : Program} {w : World} {K : PySem.W.Frag} {mg : Str → Option Value} {base : Heap} {c m : Str} {ps : List Str} {j k : Nat} {sp : SpD} (a : KnM P w K mg base CX0 c m j ps sp) (h : j ≤ k) : KnM P w K mg base CX0 c m k ps sp := by
  obtain ⟨C, f, fd, h1, h2, F, h3⟩ := a
  exact ⟨C, f, fd, h1, h2, F.up h, h3⟩
theorem KnM.no {P : Program} {w : World} {K : PySem.W.Frag} {mg : Str → Option Value} {base : Heap} {c m qual : Str} {st : Stmt} {N ps : List Str} (a : AtM K c m qual st ps) (S : FnScope N ps (defScope st)) : KnM P w K mg base CX0 c m 1 ps spNo := by
  obtain ⟨C, f, fd, hC, hm, F, hb⟩ := a
  exact ⟨C, f, fd, hC, hm, fnD (tb := dNever) (k := 0) F S (fun _ _ _ _ _ _ _ _ h => h) (fun _ _ _ _ h => h.elim) (fun _ _ _ _ _ _ _ => pssd_never) (fun _ _ _ _ h => h.elim), hb⟩
end Dl
set_option Elab.async false
set_option linter.all false
set_option autoImplicit false
set_option maxRecDepth 100000
set_option maxHeartbeats 600000
namespace Od
open PySem PySem.Spec PyProof.Rows L2 Dl Bk
open Fb (pairD rdOf standsAt rawD stRow rowAt stands_len jn kd cs costF Part cps_len sp_kind_behind sp_standing)
abbrev inD (n : Nat) : D := .int ((n : Nat) : Int)
/-- a split with what it is put in order by -/
def eD (rows : List D) (k : Nat) (l : List D) : D := .tup [.int (costF rows k l), inD l.length, .tup (l.map pairD), .tup l]
def oeD (rows : List D) (k : Nat) : Option (List D) → D
  | none => .non
  | some l => eD rows k l
abbrev Wt := List D × D × Nat
def wtD (rows : List D) (k : Nat) (e : Wt) : D := .tup [eD rows k e.1, e.2.1, inD e.2.2]
noncomputable abbrev srtW (ws rows : List D) (z : Str) (i k : Nat) : List (List D) := srt (stW ws rows z) lnW z.length (leL rows) i k
noncomputable abbrev canW (ws rows : List D) (z : Str) (i k f : Nat) : List Wt := canon (stW ws rows z) lnW kd z.length (leL rows) i k f
/-- what is known of a place and a kind -/
structure Me where
  i : Nat
  k : Nat
  a : Nat
  b : Nat
  f : Nat
  w : List Wt
def Me.key (e : Me) : List Key := [.inl ((e.i : Nat) : Int), .inl ((e.k : Nat) : Int)]
def Me.val (e : Me) : D := .tup [.ref e.a, .ref e.b]
structure MeOk (ws rows : List D) (z : Str) (s : Sto) (e : Me) : Prop where
  fa : s[e.a]? = some (some (.lst (((srtW ws rows z e.i e.k).take e.f).map (eD rows e.k))))
  fb : s[e.b]? = some (some (.lst (e.w.map (wtD rows e.k))))
  fl : e.f ≤ (srtW ws rows z e.i e.k).length
  wt : e.w.Perm (canW ws rows z e.i e.k e.f)
  en : z.length ≤ e.i → e.f = 1
/-- an Order at o, its dict at dk; what is known of places from lo on is whole -/
structure OrAt (o dk lo : Nat) (ws rows : List D) (z : Str) (M : List Me) (s : Sto) : Prop where
  ho : s[o]? = some (some (.ins "Order" [("split_joins", .lst rows), ("split_end", inD z.length), ("split_words", .lst ((List.range z.length).map (rowAt ws ((rows.length : Int) - 1) z.cps.toList))), ("split_known", .ref dk)]))
  d : s[dk]? = some (some (.dt (M.map Me.key) (M.map Me.val)))
  nk : (M.map Me.key).Nodup
  nr : (o :: dk :: M.flatMap fun e => [e.a, e.b]).Nodup
  lt : ∀ e ∈ M, e.i ≤ z.length ∧ e.k < rows.length ∧ e.a < s.length ∧ e.b < s.length
  ok : ∀ e ∈ M, lo ≤ e.i → MeOk ws rows z s e
/-- what a call about places from i on may change -/
structure OrFr (dk i : Nat) (M M' : List Me) (s s' : Sto) : Prop where
  len : s.length ≤ s'.length
  low : ∀ e ∈ M, e.i < i → e ∈ M'
  new : ∀ e ∈ M', e.i < i → e ∈ M
  at_ : ∀ j, j < s.length → j ≠ dk → (∀ e ∈ M, i ≤ e.i → j ≠ e.a ∧ j ≠ e.b) → s'[j]? = s[j]?
  own : ∀ e' ∈ M', i ≤ e'.i → (s.length ≤ e'.a ∨ ∃ e ∈ M, i ≤ e.i ∧ e.a = e'.a) ∧ (s.length ≤ e'.b ∨ ∃ e ∈ M, i ≤ e.i ∧ e.b = e'.b)
/-- a book and a reading that are good -/
structure Gvn (m : Nat) (ws rows : List D) (z : Str) : Prop where
  B : BookOk m ws rows
  m : m ≤ 1000
  zs : sgnIn az z = true
  zl : z.length ≤ 40
def sp_Order___init__ : SpD := fun ds s Q _ => ∃ (s0 : Sto) (m : Nat) (ws rows : List D) (z : Str), ds = [.ref s0.length, .tup [.lst ws, .lst rows], .str z] ∧ s = s0 ++ [some (.ins "Order" [])] ∧ Gvn m ws rows z ∧
  ∀ s', OrAt s0.length (s0.length + 2) 0 ws rows z [] s' → s'.length = s0.length + 3 → (∀ j, j < s0.length → s'[j]? = s0[j]?) → Q .non s'
theorem mono_Order___init__ : MonoSp sp_Order___init__ := fun _ _ _ _ _ _ f _ ⟨s0, m, ws, rows, z, h1, h2, h3, h⟩ => ⟨s0, m, ws, rows, z, h1, h2, h3, fun s' a1 a2 a3 => f _ _ (h s' a1 a2 a3)⟩
theorem len_Order___init__ : ∀ ds s Q E, sp_Order___init__ ds s Q E → ds.length = ["self", "book", "reading"].length := fun _ _ _ _ ⟨_, _, _, _, _, h, _⟩ => by rw [h]; rfl
def sp_Order_split_atN : Nat → SpD
  | 0 => spNo
  | n + 1 => fun ds s Q _ => ∃ (o dk lo m : Nat) (ws rows : List D) (z : Str) (M : List Me) (i k r : Nat), ds = [.ref o, inD i, inD k, inD r] ∧ OrAt o dk lo ws rows z M s ∧ Gvn m ws rows z ∧ (lo ≤ i ∧ i ≤ z.length ∧ z.length - i ≤ n) ∧ k < rows.length ∧ r + (z.length - i) ≤ 1000000 ∧
    ∀ M' s', OrAt o dk lo ws rows z M' s' → OrFr dk i M M' s s' → Q (oeD rows k ((srtW ws rows z i k)[r]?)) s'
theorem mono_Order_split_atN : ∀ n, MonoSp (sp_Order_split_atN n)
  | 0 => fun _ _ _ _ _ _ _ _ h => h
  | n + 1 => fun _ _ _ _ _ _ f _ ⟨o, dk, lo, m, ws, rows, z, M, i, k, r, h1, h2, h3, h4, h5, h6, h⟩ => ⟨o, dk, lo, m, ws, rows, z, M, i, k, r, h1, h2, h3, h4, h5, h6, fun M' s' a1 a2 => f _ _ (h M' s' a1 a2)⟩
theorem len_Order_split_atN : ∀ n ds s Q E, sp_Order_split_atN n ds s Q E → ds.length = ["self", "place", "kind", "rank"].length
  | 0, _, _, _, _, h => h.elim
  | n + 1, _, _, _, _, ⟨_, _, _, _, _, _, _, _, _, _, _, h, _⟩ => by rw [h]; rfl
theorem mono_Order_split_at {n : Nat} : MonoSp (sp_Order_split_atN n) := mono_Order_split_atN n
theorem len_Order_split_at {n : Nat} : ∀ ds s Q E, sp_Order_split_atN n ds s Q E → ds.length = ["self", "place", "kind", "rank"].length := len_Order_split_atN n
def sp_Order_split_at : SpD := sp_Order_split_atN 42
def sp_Order_split_aheadN (n : Nat) : SpD := fun ds s Q _ => ∃ (o dk lo m : Nat) (ws rows : List D) (z : Str) (M : List Me) (i k r : Nat) (x : D), ds = [.ref o, inD i, inD k, x, inD r] ∧ OrAt o dk lo ws rows z M s ∧ Gvn m ws rows z ∧ lo ≤ i + 1 ∧ (x ∈ stW ws rows z i ∧ z.length - (i + lnW x) < n) ∧ k < rows.length ∧ r + (z.length - (i + lnW x)) ≤ 1000000 ∧
  ∀ M' s', OrAt o dk lo ws rows z M' s' → OrFr dk (i + 1) M M' s s' → Q (oeD rows k (((srtW ws rows z (i + lnW x) (kd x))[r]?).map (x :: ·))) s'
theorem mono_Order_split_ahead {n : Nat} : MonoSp (sp_Order_split_aheadN n) := fun _ _ _ _ _ _ f _ ⟨o, dk, lo, m, ws, rows, z, M, i, k, r, x, h1, h2, h3, h4, h5, h6, h7, h⟩ => ⟨o, dk, lo, m, ws, rows, z, M, i, k, r, x, h1, h2, h3, h4, h5, h6, h7, fun M' s' a1 a2 => f _ _ (h M' s' a1 a2)⟩
theorem len_Order_split_ahead {n : Nat} : ∀ ds s Q E, sp_Order_split_aheadN n ds s Q E → ds.length = ["self", "place", "kind", "word", "rank"].length := fun _ _ _ _ ⟨_, _, _, _, _, _, _, _, _, _, _, _, h, _⟩ => by rw [h]; rfl
def sp_Order_split_begunN (n : Nat) : SpD := fun ds s Q _ => ∃ (o dk lo m : Nat) (ws rows : List D) (z : Str) (M : List Me) (i k : Nat), ds = [.ref o, inD i, inD k] ∧ OrAt o dk lo ws rows z M s ∧ Gvn m ws rows z ∧ (lo ≤ i ∧ i ≤ z.length ∧ z.length - i ≤ n) ∧ k < rows.length ∧
  ∀ M' s' e, OrAt o dk lo ws rows z M' s' → OrFr dk i M M' s s' → e ∈ M' → e.i = i → e.k = k → Q e.val s'
theorem mono_Order_split_begun {n : Nat} : MonoSp (sp_Order_split_begunN n) := fun _ _ _ _ _ _ f _ ⟨o, dk, lo, m, ws, rows, z, M, i, k, h1, h2, h3, h4, h5, h⟩ => ⟨o, dk, lo, m, ws, rows, z, M, i, k, h1, h2, h3, h4, h5, fun M' s' e a1 a2 a3 a4 a5 => f _ _ (h M' s' e a1 a2 a3 a4 a5)⟩
theorem len_Order_split_begun {n : Nat} : ∀ ds s Q E, sp_Order_split_begunN n ds s Q E → ds.length = ["self", "place", "kind"].length := fun _ _ _ _ ⟨_, _, _, _, _, _, _, _, _, _, h, _⟩ => by rw [h]; rfl
/-- the first split of a reading behind a kind -/
noncomputable def cheapL (ws rows : List D) (z : Str) (k : Nat) : List D := ((srtW ws rows z 0 k)[0]?).getD []
def sp_cheapest : SpD := fun ds s Q _ => ∃ (m : Nat) (ws rows : List D) (z : Str) (b : D) (k : Nat), ds = [.tup [.lst ws, .lst rows], .str z, b] ∧ Gvn m ws rows z ∧ 1 ≤ z.length ∧ k < rows.length ∧ ((b = .non ∧ k = rows.length - 1) ∨ b = .int (k : Nat)) ∧
  ∀ s', s.length ≤ s'.length → (∀ j, j < s.length → s'[j]? = s[j]?) → Q (.lst (cheapL ws rows z k)) s'
theorem mono_cheapest : MonoSp sp_cheapest := fun _ _ _ _ _ _ f _ ⟨m, ws, rows, z, b, k, h1, h2, h3, h4, h5, h⟩ => ⟨m, ws, rows, z, b, k, h1, h2, h3, h4, h5, fun s' a1 a2 => f _ _ (h s' a1 a2)⟩
theorem len_cheapest : ∀ ds s Q E, sp_cheapest ds s Q E → ds.length = ["book", "reading", "behind"].length := fun _ _ _ _ ⟨_, _, _, _, _, _, h, _⟩ => by rw [h]; rfl
def b_Order___init__ : SD := (dSeq (dSetF "Order" "split_joins" (dVar 0) (dBin (oF idxF) (dVar 1) (dC (.int 1))))
  (dSeq (dSetF "Order" "split_end" (dVar 0) (dCB lenF (dCons (dVar 2) dNil)))
  (dSeq (dSetF "Order" "split_words" (dVar 0) (dCall sp_standing [] (dCons (dVar 1) (dCons (dVar 2) dNil))))
  (dSetF "Order" "split_known" (dVar 0) dDNewT))))
def b_Order_split_ahead (sp_Order_split_at : SpD) : SD := (dSeq (dAsg (dMeth noW "Order" "split_at" sp_Order_split_at [] (dVar 0) (dCons (dBin (oF addF) (dVar 1) (dCB lenF (dCons (dBin (oF idxF) (dVar 3) (dC (.int 0))) dNil))) (dCons (dBin (oF idxF) (dVar 3) (dC (.int 3))) (dCons (dVar 4) dNil)))) (gN 5))
  (dSeq (dIfS (dTest (dBin (oF isF) (dVar 5) (dC .non))) (dRet (dC .non)) dNext)
  (dSeq (dAsg (dVar 5) (gTs [6, 7, 8, 9]))
  (dSeq (dAug 6 (oF iaddF) (dBin (oF addF) (dBin (oF idxF) (dBin (oF idxF) (dFld "Order" "split_joins" (dVar 0)) (dVar 2)) (dBin (oF idxF) (dVar 3) (dC (.int 3)))) (dBin (oF idxF) (dVar 3) (dC (.int 2)))))
  (dRet (dTup (dCons (dVar 6) (dCons (dBin (oF addF) (dVar 7) (dC (.int 1))) (dCons (dBin (oF addF) (dTup (dCons (dSl (dVar 3) dNoP (dP (dC (.int 2)))) dNil)) (dVar 8)) (dCons (dBin (oF addF) (dTup (dCons (dVar 3) dNil)) (dVar 9)) dNil))))))))))
def b_Order_split_begun (sp_Order_split_ahead : SpD) : SD := (dSeq (dIfS (dTest (dDIn Bool.not (dTup (dCons (dVar 1) (dCons (dVar 2) dNil))) (dFld "Order" "split_known" (dVar 0)))) (dIfS (dTest (dBin (oF eqF) (dVar 1) (dFld "Order" "split_end" (dVar 0)))) (dDPut (dFld "Order" "split_known" (dVar 0)) (dTup (dCons (dVar 1) (dCons (dVar 2) dNil))) (dTup (dCons (dNew (dCons (dTup (dCons (dBin (oF idxF) (dBin (oF idxF) (dFld "Order" "split_joins" (dVar 0)) (dVar 2)) (dUn negF (dC (.int 1)))) (dCons (dC (.int 0)) (dCons (dTup dNil) (dCons (dTup dNil) dNil))))) dNil)) (dCons (dNew dNil) dNil)))) (dSeq (dAsg (dLcN (iW (dBin (oF idxF) (dFld "Order" "split_words" (dVar 0)) (dVar 1))) (CT.g (.one 4)) dYes (dTup (dCons (dMeth noW "Order" "split_ahead" sp_Order_split_ahead [] (dVar 0) (dCons (dVar 1) (dCons (dVar 2) (dCons (dVar 4) (dCons (dC (.int 0)) dNil))))) (dCons (dVar 4) (dCons (dC (.int 0)) dNil)))) [4]) (gN 3))
  (dDPut (dFld "Order" "split_known" (dVar 0)) (dTup (dCons (dVar 1) (dCons (dVar 2) dNil))) (dTup (dCons (dNew dNil) (dCons (dVar 3) dNil)))))) dNext)
  (dRet (dDGet (dFld "Order" "split_known" (dVar 0)) (dTup (dCons (dVar 1) (dCons (dVar 2) dNil))))))
def b_Order_split_at (sp_Order_split_begun sp_Order_split_ahead : SpD) : SD := (dSeq (dAsg (dMeth noW "Order" "split_begun" sp_Order_split_begun [] (dVar 0) (dCons (dVar 1) (dCons (dVar 2) dNil))) (gTs [4, 5]))
  (dSeq (dWhile (dAnd (dTest (dBin (oF leF) (dCB lenF (dCons (dVar 4) dNil)) (dVar 3))) (dTest (dBin (oF neF) (dVar 5) (dLst dNil)))) (dSeq (dAsg (dCB minTF (dCons (dLc (iW (dVar 5)) (CT.g (.one 8)) dYes (dSl (dBin (oF idxF) (dVar 8) (dC (.int 0))) dNoP (dP (dC (.int 3)))) [8]) dNil)) (gN 6))
  (dSeq (dAsg (dIndexP (dLc (iW (dVar 5)) (CT.g (.one 8)) dYes (dSl (dBin (oF idxF) (dVar 8) (dC (.int 0))) dNoP (dP (dC (.int 3)))) [8]) (dCons (dVar 6) dNil)) (gN 7))
  (dSeq (dAsg (dMt fPop (dVar 5) (dCons (dVar 7) dNil)) (gTs [8, 9, 10]))
  (dSeq (dDrop (dMt fAppend (dVar 4) (dCons (dVar 8) dNil)))
  (dSeq (dAsg (dMeth noW "Order" "split_ahead" sp_Order_split_ahead [] (dVar 0) (dCons (dVar 1) (dCons (dVar 2) (dCons (dVar 9) (dCons (dBin (oF addF) (dVar 10) (dC (.int 1))) dNil))))) (gN 11))
  (dIfS (dTest (dBin (oF isNotF) (dVar 11) (dC .non))) (dDrop (dMt fAppend (dVar 5) (dCons (dTup (dCons (dVar 11) (dCons (dVar 9) (dCons (dBin (oF addF) (dVar 10) (dC (.int 1))) dNil)))) dNil))) dNext)))))))
  (dRet (dIf (dTest (dBin (oF ltF) (dVar 3) (dCB lenF (dCons (dVar 4) dNil)))) (dBin (oF idxF) (dVar 4) (dVar 3)) (dC .non)))))
def b_cheapest : SD := (dSeq (dDrop (dCall sp_need_both [] (dCons (dVar 0) (dCons (dVar 1) dNil))))
  (dRet (dCB listF (dCons (dBin (oF idxF) (dMeth noW "Order" "split_at" sp_Order_split_at [] (dMakeA "Order" sp_Order___init__ (dCons (dVar 0) (dCons (dVar 1) dNil))) (dCons (dC (.int 0)) (dCons (dCall sp_kind_behind [] (dCons (dVar 0) (dCons (dVar 2) dNil))) (dCons (dC (.int 0)) dNil)))) (dC (.int 3))) dNil))))
end Od
set_option Elab.async false
set_option linter.all false
set_option autoImplicit false
set_option maxRecDepth 100000
set_option maxHeartbeats 600000
namespace Od
open PySem PySem.Spec PyProof.Rows L2 Dl Bk
open Fb (pairD rdOf standsAt rawD stRow rowAt stands_len jn kd cs costF Part cps_len sp_kind_behind sp_standing part_shape row_at)
open Fa (ifD ifB ifT ifF fapp)
theorem dictD_T {s : Sto} {l : Nat} {ks : List (List Key)} {xs : List D} (h : s[l]? = some (some (.dt ks xs))) : dictD s (.ref l) = some (.t (ks.zip xs)) := by
  simp only [dictD, h]
theorem dictM_T {s : Sto} {l : Nat} {ks : List (List Key)} {xs : List D} (h : s[l]? = some (some (.dt ks xs))) : dictM s (.ref l) = some (.t (ks.zip xs)) := by
  simp only [dictM, h]
theorem zip_me (M : List Me) : (M.map Me.key).zip (M.map Me.val) = M.map fun e => (e.key, e.val) := by
  induction M with
  | nil => rfl
  | cons e M ih => rw [List.map_cons, List.map_cons, List.map_cons, List.zip_cons_cons, ih]
theorem me_get {M : List Me} {i k : Nat} {e : Me} (nk : (M.map Me.key).Nodup) (he : e ∈ M) (hi : e.i = i) (hk : e.k = k) : (DV.t ((M.map Me.key).zip (M.map Me.val))).get (.tup [inD i, inD k]) = some (some e.val) := by
  show some (getP ((M.map Me.key).zip (M.map Me.val)) [.inl ((i : Nat) : Int), .inl ((k : Nat) : Int)]) = _
  rw [zip_me]
  congr 1
  subst hi hk
  unfold getP
  induction M with
  | nil => cases he
  | cons c M ih =>
    obtain ⟨n1, n2⟩ := List.nodup_cons.mp nk
    rw [List.map_cons, List.find?_cons]
    rcases List.mem_cons.mp he with rfl | he
    · rw [decide_eq_true (show (e.key, e.val).1 = [.inl ((e.i : Nat) : Int), .inl ((e.k : Nat) : Int)] from rfl)]; rfl
    · have : c.key ≠ [.inl ((e.i : Nat) : Int), .inl ((e.k : Nat) : Int)] := fun h => n1 (by rw [h]; exact List.mem_map.mpr ⟨e, he, rfl⟩)
      rw [decide_eq_false this]
      exact ih n2 he
theorem me_no {M : List Me} {i k : Nat} (h : ∀ e ∈ M, ¬ (e.i = i ∧ e.k = k)) : (DV.t ((M.map Me.key).zip (M.map Me.val))).get (.tup [inD i, inD k]) = some none := by
  show some (getP ((M.map Me.key).zip (M.map Me.val)) [.inl ((i : Nat) : Int), .inl ((k : Nat) : Int)]) = _
  rw [zip_me]
  congr 1
  unfold getP
  induction M with
  | nil => rfl
  | cons c M ih =>
    rw [List.map_cons, List.find?_cons]
    have : c.key ≠ [.inl ((i : Nat) : Int), .inl ((k : Nat) : Int)] := fun e => h c List.mem_cons_self (by
      have e : ([.inl ((c.i : Nat) : Int), .inl ((c.k : Nat) : Int)] : List Key) = [.inl ((i : Nat) : Int), .inl ((k : Nat) : Int)] := e
      injection e with e1 e
      injection e with e2 _
      injection e1 with e1
      injection e2 with e2
      exact ⟨by omega, by omega⟩)
    rw [decide_eq_false this]
    exact ih fun e he => h e (List.mem_cons_of_mem _ he)
theorem me_put {M : List Me} {i k : Nat} {v : D} (h : ∀ e ∈ M, ¬ (e.i = i ∧ e.k = k)) : (DV.t ((M.map Me.key).zip (M.map Me.val))).put (.tup [inD i, inD k]) v = some (.t ((M.map fun e => (e.key, e.val)) ++ [([.inl ((i : Nat) : Int), .inl ((k : Nat) : Int)], v)])) := by
  show some (DV.t (putP ((M.map Me.key).zip (M.map Me.val)) [.inl ((i : Nat) : Int), .inl ((k : Nat) : Int)] v)) = _
  rw [zip_me]
  congr 2
  unfold putP
  rw [if_neg]
  intro e
  obtain ⟨p, hp, e⟩ := List.any_eq_true.mp e
  obtain ⟨c, hc, rfl⟩ := List.mem_map.mp hp
  have e := of_decide_eq_true e
  have e : ([.inl ((c.i : Nat) : Int), .inl ((c.k : Nat) : Int)] : List Key) = [.inl ((i : Nat) : Int), .inl ((k : Nat) : Int)] := e
  injection e with e1 e
  injection e with e2 _
  injection e1 with e1
  injection e2 with e2
  exact h c hc ⟨by omega, by omega⟩
theorem key_eq {e e' : Me} (hi : e.i = e'.i) (hk : e.k = e'.k) : e.key = e'.key := by
  unfold Me.key
  rw [hi, hk]
theorem nk_inj {M : List Me} (nk : (M.map Me.key).Nodup) {e e' : Me} (he : e ∈ M) (he' : e' ∈ M) (hi : e.i = e'.i) (hk : e.k = e'.k) : e = e' := Fa.nodup_inj nk he he' (key_eq hi hk)
theorem nr_ne {M : List Me} (h : (M.flatMap fun e => [e.a, e.b]).Nodup) : (∀ e ∈ M, e.a ≠ e.b) ∧ ∀ e ∈ M, ∀ e' ∈ M, e ≠ e' → e.a ≠ e'.a ∧ e.a ≠ e'.b ∧ e.b ≠ e'.a ∧ e.b ≠ e'.b := by
  induction M with
  | nil => exact ⟨(fun _ h => nomatch h), (fun _ h => nomatch h)⟩
  | cons c M ih =>
    rw [List.flatMap_cons] at h
    obtain ⟨h1, h2, h3⟩ := List.nodup_append.mp h
    obtain ⟨i1, i2⟩ := ih h2
    have hab : c.a ≠ c.b := by
      have := (List.nodup_cons.mp h1).1
      intro e; exact this (by rw [e]; exact List.mem_cons_self)
    have hc : ∀ e ∈ M, c.a ≠ e.a ∧ c.a ≠ e.b ∧ c.b ≠ e.a ∧ c.b ≠ e.b := fun e he => by
      have ma : e.a ∈ M.flatMap fun e => [e.a, e.b] := List.mem_flatMap.mpr ⟨e, he, List.mem_cons_self⟩
      have mb : e.b ∈ M.flatMap fun e => [e.a, e.b] := List.mem_flatMap.mpr ⟨e, he, List.mem_cons_of_mem _ List.mem_cons_self⟩
      have ca : c.a ∈ [c.a, c.b] := List.mem_cons_self
      have cb : c.b ∈ [c.a, c.b] := List.mem_cons_of_mem _ List.mem_cons_self
      exact ⟨h3 _ ca _ ma, h3 _ ca _ mb, h3 _ cb _ ma, h3 _ cb _ mb⟩
    refine ⟨fun e he => ?_, fun e he e' he' hne => ?_⟩
    · rcases List.mem_cons.mp he with rfl | he
      · exact hab
      · exact i1 e he
    · rcases List.mem_cons.mp he with rfl | he1
      · rcases List.mem_cons.mp he' with rfl | he2
        · exact absurd rfl hne
        · exact hc e' he2
      · rcases List.mem_cons.mp he' with rfl | he2
        · obtain ⟨a, b, c, d⟩ := hc e he1
          exact ⟨Ne.symm a, Ne.symm c, Ne.symm b, Ne.symm d⟩
        · exact i2 e he1 e' he2 hne
section
variable {o dk lo m : Nat} {ws rows : List D} {z : Str} {M M' M2 : List Me} {s s' s2 : Sto}
theorem OrAt.ne (A : OrAt o dk lo ws rows z M s) : o ≠ dk ∧ (∀ e ∈ M, e.a ≠ o ∧ e.b ≠ o ∧ e.a ≠ dk ∧ e.b ≠ dk ∧ e.a ≠ e.b) ∧ ∀ e ∈ M, ∀ e' ∈ M, e ≠ e' → e.a ≠ e'.a ∧ e.a ≠ e'.b ∧ e.b ≠ e'.a ∧ e.b ≠ e'.b := by
  obtain ⟨n1, n⟩ := List.nodup_cons.mp A.nr
  obtain ⟨n2, n⟩ := List.nodup_cons.mp n
  obtain ⟨h1, h2⟩ := nr_ne n
  refine ⟨fun e => n1 (e ▸ List.mem_cons_self), fun e he => ?_, h2⟩
  have ma : e.a ∈ M.flatMap fun e => [e.a, e.b] := List.mem_flatMap.mpr ⟨e, he, List.mem_cons_self⟩
  have mb : e.b ∈ M.flatMap fun e => [e.a, e.b] := List.mem_flatMap.mpr ⟨e, he, List.mem_cons_of_mem _ List.mem_cons_self⟩
  exact ⟨fun h => n1 (h ▸ List.mem_cons_of_mem _ ma), fun h => n1 (h ▸ List.mem_cons_of_mem _ mb), fun h => n2 (h ▸ ma), fun h => n2 (h ▸ mb), h1 e he⟩
theorem OrAt.weak (A : OrAt o dk lo ws rows z M s) {lo' : Nat} (h : lo ≤ lo') : OrAt o dk lo' ws rows z M s := ⟨A.ho, A.d, A.nk, A.nr, A.lt, fun e he h' => A.ok e he (by omega)⟩
theorem MeOk.at_ {e : Me} (K : MeOk ws rows z s e) (ha : s'[e.a]? = s[e.a]?) (hb : s'[e.b]? = s[e.b]?) : MeOk ws rows z s' e := ⟨ha.trans K.fa, hb.trans K.fb, K.fl, K.wt, K.en⟩
theorem OrFr.refl {i : Nat} : OrFr dk i M M s s := ⟨Nat.le_refl _, fun _ h _ => h, fun _ h _ => h, fun _ _ _ _ => rfl, fun e h hi => ⟨.inr ⟨e, h, hi, rfl⟩, .inr ⟨e, h, hi, rfl⟩⟩⟩
theorem OrFr.trans {i : Nat} (A : OrFr dk i M M' s s') (B : OrFr dk i M' M2 s' s2) : OrFr dk i M M2 s s2 := by
  refine ⟨Nat.le_trans A.len B.len, fun e he hi => B.low e (A.low e he hi) hi, fun e he hi => A.new e (B.new e he hi) hi, fun j hj hd hn => ?_, fun e he hi => ?_⟩
  · have h1 := A.len
    refine (B.at_ j (by omega) hd fun e' he' hi' => ?_).trans (A.at_ j hj hd hn)
    obtain ⟨oa, ob⟩ := A.own e' he' hi'
    refine ⟨fun e => ?_, fun e => ?_⟩
    · rcases oa with h | ⟨c, hc, hci, hca⟩
      · omega
      · exact (hn c hc hci).1 (by rw [hca]; exact e)
    · rcases ob with h | ⟨c, hc, hci, hca⟩
      · omega
      · exact (hn c hc hci).2 (by rw [hca]; exact e)
  · have h1 := A.len
    obtain ⟨oa, ob⟩ := B.own e he hi
    refine ⟨?_, ?_⟩
    · rcases oa with h | ⟨c, hc, hci, hca⟩
      · exact .inl (by omega)
      · obtain ⟨pa, _⟩ := A.own c hc hci
        rw [hca] at pa; exact pa
    · rcases ob with h | ⟨c, hc, hci, hca⟩
      · exact .inl (by omega)
      · obtain ⟨_, pb⟩ := A.own c hc hci
        rw [hca] at pb; exact pb
theorem OrFr.mono {i i' : Nat} (A : OrFr dk i' M M' s s') (h : i ≤ i') : OrFr dk i M M' s s' := by
  refine ⟨A.len, fun e he hi => A.low e he (by omega), fun e he hi => A.new e he (by omega), fun j hj hd hn => A.at_ j hj hd fun e he hi => hn e he (by omega), fun e he hi => ?_⟩
  by_cases h2 : i' ≤ e.i
  · obtain ⟨oa, ob⟩ := A.own e he h2
    exact ⟨oa.imp id fun ⟨c, h1, h2, h3⟩ => ⟨c, h1, by omega, h3⟩, ob.imp id fun ⟨c, h1, h2, h3⟩ => ⟨c, h1, by omega, h3⟩⟩
  · have := A.new e he (by omega)
    exact ⟨.inr ⟨e, this, hi, rfl⟩, .inr ⟨e, this, hi, rfl⟩⟩
/-- what is known of lower places stays as it is -/
theorem OrFr.keep {i : Nat} (F : OrFr dk i M M' s s') (A : OrAt o dk lo ws rows z M s) {e : Me} (he : e ∈ M) (hi : e.i < i) : s'[e.a]? = s[e.a]? ∧ s'[e.b]? = s[e.b]? := by
  obtain ⟨_, h2, h3⟩ := A.ne
  obtain ⟨l1, l2, l3, l4⟩ := A.lt e he
  obtain ⟨a1, a2, a3, a4, a5⟩ := h2 e he
  have hne : ∀ e' ∈ M, i ≤ e'.i → e ≠ e' := fun e' _ h' h => by rw [h] at hi; omega
  exact ⟨F.at_ _ l3 a3 fun e' he' h' => ⟨(h3 e he e' he' (hne e' he' h')).1, (h3 e he e' he' (hne e' he' h')).2.1⟩, F.at_ _ l4 a4 fun e' he' h' => ⟨(h3 e he e' he' (hne e' he' h')).2.2.1, (h3 e he e' he' (hne e' he' h')).2.2.2⟩⟩
end
section
variable {m : Nat} {ws rows : List D} {z : Str}
theorem Gvn.ok (G : Gvn m ws rows z) : Ok (stW ws rows z) lnW kd z.length (leL rows) := ok_of G.B G.zs
theorem Gvn.r1 (G : Gvn m ws rows z) : 1 ≤ rows.length := by
  have := G.B.r0
  cases h : rows with
  | nil => exact absurd h this
  | cons a l => exact Nat.succ_le_succ (Nat.zero_le _)
theorem st_part (G : Gvn m ws rows z) {i : Nat} {x : D} (h : x ∈ stW ws rows z i) : Part ws ((rows.length : Int) - 1) x := by
  obtain ⟨hi, h⟩ := st_mem G.B h
  rcases h with rfl | ⟨h, _⟩
  · refine .inr ⟨_, ?_, rfl⟩
    have hl : i < z.cps.toList.length := by rw [cps_len]; exact hi
    rw [List.getD_eq_getElem?_getD, List.getElem?_eq_getElem hl]
    exact of_decide_eq_true (List.all_eq_true.mp G.zs _ (List.getElem_mem hl))
  · exact .inl h
theorem st_shape (G : Gvn m ws rows z) {i : Nat} {x : D} (h : x ∈ stW ws rows z i) : ∃ (r w : Str) (c : Int) (k : Nat), x = .tup [.str r, .str w, .int c, inD k] ∧ k < rows.length ∧ kd x = k ∧ lnW x = r.length ∧ cs x = c ∧ pairD x = .tup [.str r, .str w] := by
  obtain ⟨r, w, c, k, rfl, hk, h1, h2⟩ := part_shape (st_part G h) G.B.ww G.r1
  exact ⟨r, w, c, k, rfl, hk, rfl, cps_len r, rfl, rfl⟩
theorem all_len (G : Gvn m ws rows z) {i : Nat} {t : List D} (h : t ∈ all (stW ws rows z) lnW z.length i) : t.length ≤ z.length := by
  have key : ∀ (t : List D) (i : Nat), t ∈ all (stW ws rows z) lnW z.length i → t = [] ∨ t.length + i ≤ z.length := by
    intro t
    induction t with
    | nil => exact fun _ _ => .inl rfl
    | cons x t ih =>
      intro i h
      by_cases hi : i < z.length
      · obtain ⟨y, u, e, hy, hu⟩ := (mem_all G.ok hi).mp h
        obtain ⟨rfl, rfl⟩ := List.cons.inj e
        obtain ⟨_, l1, l2⟩ := st_ok G.B hy
        refine .inr ?_
        rw [List.length_cons]
        rcases ih _ hu with rfl | h2
        · show 0 + 1 + i ≤ _; omega
        · omega
      · rw [all_end (by omega)] at h
        rw [List.mem_singleton.mp h]; exact .inl rfl
  rcases key t i h with rfl | h
  · exact Nat.zero_le _
  · omega
theorem srt_len (G : Gvn m ws rows z) {i k r : Nat} {t : List D} (h : (srtW ws rows z i k)[r]? = some t) : t.length ≤ z.length := all_len G ((srt_mem G.ok).mp (List.mem_of_getElem? h))
end
theorem g_set {s : Sto} {l : Nat} {o : Option MO} (h : l < s.length) : (s.set l o)[l]? = some o := List.getElem?_set_self h
theorem oI1 {x : D} : putD "split_joins" x [] = ([("split_joins", x)] : List (Str × D)) := rfl
theorem oI2 {a x : D} : putD "split_end" x ([("split_joins", a)] : List (Str × D)) = ([("split_joins", a), ("split_end", x)] : List (Str × D)) := by rw [putD, if_neg (by decide)]; rfl
theorem oI3 {a b x : D} : putD "split_words" x ([("split_joins", a), ("split_end", b)] : List (Str × D)) = ([("split_joins", a), ("split_end", b), ("split_words", x)] : List (Str × D)) := by rw [putD, if_neg (by decide), putD, if_neg (by decide)]; rfl
theorem oI4 {a b c x : D} : putD "split_known" x ([("split_joins", a), ("split_end", b), ("split_words", c)] : List (Str × D)) = ([("split_joins", a), ("split_end", b), ("split_words", c), ("split_known", x)] : List (Str × D)) := by rw [putD, if_neg (by decide), putD, if_neg (by decide), putD, if_neg (by decide)]; rfl
section
variable (ds : List D) (s : Sto) (Q : D → Sto → Prop) (E : XD)
theorem pf_Order___init__ (h : sp_Order___init__ ds s Q E) : b_Order___init__ (endsOf Q) (envD ["self", "book", "reading"] ds) s := by
  obtain ⟨s0, m, ws, rows, z, rfl, rfl, G, q⟩ := h
  have hz := G.zl
  have hr := G.B.rl
  have hwl := G.B.wl
  have hm := G.m
  have l0 : (s0 ++ [some (MO.ins "Order" [])]).length = s0.length + 1 := by simp
  have o0 : (s0 ++ [some (MO.ins "Order" [])])[s0.length]? = some (some (.ins "Order" [])) := by simp
  have hl : s0.length < (s0 ++ [some (MO.ins "Order" [])]).length := by omega
  have b0 : ∀ j, j < s0.length → (s0 ++ [some (MO.ins "Order" [])])[j]? = s0[j]? := fun j hj => List.getElem?_append_left hj
  generalize s0 ++ [some (MO.ins "Order" [])] = s1 at l0 o0 hl b0
  refine ⟨_, rfl, _, rfl, _, rfl, s0.length, _, rfl, o0, (by show 0 < 1000; decide), ?_⟩
  rw [oI1]
  refine ⟨_, rfl, _, rfl, _, rfl, s0.length, _, rfl, g_set hl, (by show 1 < 1000; decide), ?_⟩
  rw [List.set_set, oI2]
  refine ⟨_, rfl, _, rfl, ws, rows, z, _, rfl, G.B.ww, by omega, by omega, by omega, ?_⟩
  have g3 : (s1.set s0.length (some (MO.ins "Order" [("split_joins", .lst rows), ("split_end", inD z.length)])) ++ [none])[s0.length]? = some (some (.ins "Order" [("split_joins", .lst rows), ("split_end", inD z.length)])) := by
    rw [List.getElem?_append_left (by rw [List.length_set]; exact hl)]; exact g_set hl
  refine ⟨_, rfl, s0.length, _, rfl, g3, (by show 2 < 1000; decide), ?_⟩
  rw [oI3]
  have l3 : ((s1.set s0.length (some (MO.ins "Order" [("split_joins", .lst rows), ("split_end", inD z.length)])) ++ [none]).set s0.length (some (MO.ins "Order" [("split_joins", .lst rows), ("split_end", inD z.length), ("split_words", .lst ((List.range z.length).map (rowAt ws ((rows.length : Int) - 1) z.cps.toList)))]))).length = s0.length + 2 := by
    rw [List.length_set, List.length_append, List.length_set, l0]; rfl
  have b3 : ∀ j, j < s0.length → ((s1.set s0.length (some (MO.ins "Order" [("split_joins", .lst rows), ("split_end", inD z.length)])) ++ [none]).set s0.length (some (MO.ins "Order" [("split_joins", .lst rows), ("split_end", inD z.length), ("split_words", .lst ((List.range z.length).map (rowAt ws ((rows.length : Int) - 1) z.cps.toList)))])))[j]? = s0[j]? := fun j hj => by
    rw [List.getElem?_set_ne (by omega), List.getElem?_append_left (by rw [List.length_set]; omega), List.getElem?_set_ne (by omega)]
    exact b0 j hj
  have g4 : ((s1.set s0.length (some (MO.ins "Order" [("split_joins", .lst rows), ("split_end", inD z.length)])) ++ [none]).set s0.length (some (MO.ins "Order" [("split_joins", .lst rows), ("split_end", inD z.length), ("split_words", .lst ((List.range z.length).map (rowAt ws ((rows.length : Int) - 1) z.cps.toList)))])))[s0.length]? = some (some (MO.ins "Order" [("split_joins", .lst rows), ("split_end", inD z.length), ("split_words", .lst ((List.range z.length).map (rowAt ws ((rows.length : Int) - 1) z.cps.toList)))])) := g_set (by rw [List.length_append, List.length_set]; omega)
  generalize (s1.set s0.length (some (MO.ins "Order" [("split_joins", .lst rows), ("split_end", inD z.length)])) ++ [none]).set s0.length (some (MO.ins "Order" [("split_joins", .lst rows), ("split_end", inD z.length), ("split_words", .lst ((List.range z.length).map (rowAt ws ((rows.length : Int) - 1) z.cps.toList)))])) = s3 at l3 b3 g4
  refine ⟨_, rfl, s0.length, _, rfl, (List.getElem?_append_left (by omega)).trans g4, (by show 3 < 1000; decide), ?_⟩
  rw [oI4, l3]
  refine q _ ⟨g_set (by rw [List.length_append]; omega), ?_, List.nodup_nil, ?_, (fun _ h => nomatch h), fun _ h => nomatch h⟩ ?_ fun j hj => ?_
  · rw [List.getElem?_set_ne (by omega), List.getElem?_append_right (by omega), l3, Nat.sub_self]; rfl
  · show [s0.length, s0.length + 2].Nodup
    simp
  · rw [List.length_set, List.length_append, l3]; rfl
  · rw [List.getElem?_set_ne (by omega), List.getElem?_append_left (by omega)]
    exact b3 j hj
theorem pf_Order_split_ahead (n : Nat) (h : sp_Order_split_aheadN n ds s Q E) : b_Order_split_ahead (sp_Order_split_atN n) (endsOf Q) (envD ["self", "place", "kind", "word", "rank", "rest", "cost", "many", "names", "words"] ds) s := by
  obtain ⟨o, dk, lo, m, ws, rows, z, M, i, k, r, x, rfl, A, G, hlo, ⟨hx, hn⟩, hk, hr, q⟩ := h
  have hL := sizeLine_eq
  have hz := G.zl
  obtain ⟨rd, w, c, kx, rfl, hkx, ekd, eln, ecs, epr⟩ := st_shape G hx
  obtain ⟨hi, l1, l2⟩ := st_ok G.B hx
  cases n with
  | zero => omega
  | succ n =>
  have e1 : D.int (((i : Nat) : Int) + ((rd.length : Nat) : Int)) = inD (i + lnW (.tup [.str rd, .str w, .int c, inD kx])) := congrArg D.int (by rw [eln]; omega)
  refine ⟨_, rfl, o, _, rfl, A.ho, rfl, _, rfl, _, rfl, _, rfl, _, rfl, _, rfl, _, rfl, _, rfl, _, rfl, ?_⟩
  refine ⟨o, dk, lo, m, ws, rows, z, M, i + lnW (.tup [.str rd, .str w, .int c, inD kx]), kx, r, ?_, A, G, ⟨by omega, l2, by omega⟩, hkx, hr, fun M' s' A' F' => ?_⟩
  · rw [← e1]; rfl
  have F2 := F'.mono (i := i + 1) (by omega)
  have q := q M' s' A' F2
  rw [ekd] at q
  cases hs : (srtW ws rows z (i + lnW (.tup [.str rd, .str w, .int c, inD kx])) kx)[r]? with
  | none =>
    rw [hs] at q
    exact ⟨_, rfl, _, rfl, _, rfl, ifT q⟩
  | some t =>
    rw [hs] at q
    have htl := srt_len G hs
    obtain ⟨L, hL1, hL2, _⟩ := row_at G.B.rr hk
    refine ⟨_, rfl, _, rfl, _, rfl, ifF ?_⟩
    dsimp only [dNext]
    refine ⟨_, rfl, _, rfl, rfl, ?_⟩
    refine ⟨_, rfl, _, rfl, o, _, _, rfl, A'.ho, rfl, _, rfl, L, hL1 _, _, rfl, _, rfl, _, hL2 _ kx hkx, _, rfl, _, rfl, _, rfl, _, rfl, ?_⟩
    refine ⟨_, rfl, _, rfl, _, rfl, _, rfl, _, rfl, _, rfl, Dl.ll, _, rfl, _, addt ?_, _, rfl, Dl.ll, _, rfl, _, addt ?_, Dl.ll, ?_⟩
    · rw [List.length_map]
      show 1 + t.length ≤ _
      omega
    · show 1 + t.length ≤ _
      omega
    have e2 : D.int (costF rows kx t + (jn rows k kx + c)) = .int (costF rows k (.tup [.str rd, .str w, .int c, inD kx] :: t)) := congrArg D.int (by
      show _ = jn rows k (kd (.tup [.str rd, .str w, .int c, inD kx])) + cs (.tup [.str rd, .str w, .int c, inD kx]) + costF rows (kd (.tup [.str rd, .str w, .int c, inD kx])) t
      rw [ekd, ecs]; omega)
    have e3 : D.int (((t.length : Nat) : Int) + 1) = inD (((.tup [.str rd, .str w, .int c, inD kx] : D) :: t).length) := congrArg D.int (by rw [List.length_cons]; rfl)
    have q : Q (.tup [.int (costF rows k (.tup [.str rd, .str w, .int c, inD kx] :: t)), inD (((.tup [.str rd, .str w, .int c, inD kx] : D) :: t).length), .tup ((.tup [.str rd, .str w, .int c, inD kx] :: t).map pairD), .tup (.tup [.str rd, .str w, .int c, inD kx] :: t)]) s' := q
    rw [← e2, ← e3] at q
    exact q
end
end Od
set_option Elab.async false
set_option linter.all false
set_option autoImplicit false
set_option maxRecDepth 100000
set_option maxHeartbeats 600000
namespace Od
open PySem PySem.Spec PyProof.Rows L2 Dl Bk
open Fb (pairD rdOf standsAt rawD stRow rowAt stands_len jn kd cs costF Part cps_len sp_kind_behind sp_standing part_shape row_at)
open Fa (ifD ifB ifT ifF fapp)
theorem nodup_le : ∀ (n : Nat) (l : List Nat), l.Nodup → (∀ x ∈ l, x < n) → l.length ≤ n
  | 0, [], _, _ => Nat.le_refl _
  | 0, x :: l, _, h => absurd (h x List.mem_cons_self) (Nat.not_lt_zero _)
  | n + 1, l, nd, h => by
    have h1 := nodup_le n (l.filter fun x => decide (x ≠ n)) (nd.filter _) fun x hx => by
      obtain ⟨hx, hn⟩ := List.mem_filter.mp hx
      have := h x hx
      have := of_decide_eq_true hn
      omega
    have h2 : ∀ l : List Nat, l.Nodup → l.length ≤ (l.filter fun x => decide (x ≠ n)).length + 1 := by
      intro l
      induction l with
      | nil => intro _; exact Nat.zero_le _
      | cons a l ih =>
        intro nd
        obtain ⟨n1, n2⟩ := List.nodup_cons.mp nd
        by_cases ha : a = n
        · have : l.filter (fun x => decide (x ≠ n)) = l := List.filter_eq_self.mpr fun x hx => decide_eq_true fun e => n1 (by rw [ha, ← e]; exact hx)
          rw [List.filter_cons_of_neg (by simpa using ha), this]
          exact Nat.le_refl _
        · rw [List.filter_cons_of_pos (by simpa using ha), List.length_cons, List.length_cons]
          have := ih n2
          omega
    have := h2 l nd
    omega
theorem mix_inj {a b c d N : Nat} (hb : b < N) (hd : d < N) (h : a * N + b = c * N + d) : a = c ∧ b = d := by
  have e1 : (a * N + b) / N = a := by rw [Nat.mul_comm, Nat.mul_add_div (by omega), Nat.div_eq_of_lt hb, Nat.add_zero]
  have e2 : (c * N + d) / N = c := by rw [Nat.mul_comm, Nat.mul_add_div (by omega), Nat.div_eq_of_lt hd, Nat.add_zero]
  have : a = c := by rw [← e1, ← e2, h]
  subst this
  exact ⟨rfl, by omega⟩
section
variable {o dk lo m : Nat} {ws rows : List D} {z : Str} {M M' M2 : List Me} {s s' s2 : Sto}
theorem OrAt.few (A : OrAt o dk lo ws rows z M s) (G : Gvn m ws rows z) : M.length ≤ 820 := by
  have hz := G.zl
  have hr := G.B.rl
  have nd : (M.map fun e => e.i * 20 + e.k).Nodup := by
    have nk := A.nk
    have lt := A.lt
    clear A
    induction M with
    | nil => exact List.nodup_nil
    | cons c M ih =>
      obtain ⟨n1, n2⟩ := List.nodup_cons.mp nk
      refine List.nodup_cons.mpr ⟨fun h => ?_, ih n2 fun e he => lt e (List.mem_cons_of_mem _ he)⟩
      obtain ⟨e, he, h⟩ := List.mem_map.mp h
      obtain ⟨l1, l2, _, _⟩ := lt e (List.mem_cons_of_mem _ he)
      obtain ⟨l3, l4, _, _⟩ := lt c List.mem_cons_self
      obtain ⟨h1, h2⟩ := mix_inj (by omega) (by omega) h
      exact n1 (List.mem_map.mpr ⟨e, he, key_eq h1 h2⟩)
  have := nodup_le 820 _ nd fun x hx => by
    obtain ⟨e, he, rfl⟩ := List.mem_map.mp hx
    obtain ⟨l1, l2, _, _⟩ := A.lt e he
    show e.i * 20 + e.k < 820
    omega
  rw [List.length_map] at this
  exact this
theorem OrAt.grow (A : OrAt o dk lo ws rows z M s) (hl : s.length ≤ s'.length) (h : ∀ j, j < s.length → s'[j]? = s[j]?) : OrAt o dk lo ws rows z M s' := by
  have l1 := (List.getElem?_eq_some_iff.mp A.ho).1
  have l2 := (List.getElem?_eq_some_iff.mp A.d).1
  refine ⟨(h o l1).trans A.ho, (h dk l2).trans A.d, A.nk, A.nr, fun e he => ?_, fun e he hlo => ?_⟩
  · obtain ⟨a, b, c, d⟩ := A.lt e he
    exact ⟨a, b, by omega, by omega⟩
  · obtain ⟨a, b, c, d⟩ := A.lt e he
    exact (A.ok e he hlo).at_ (h _ c) (h _ d)
/-- something new is known -/
theorem OrAt.add (A : OrAt o dk lo ws rows z M s) {e : Me} (hno : ∀ c ∈ M, ¬ (c.i = e.i ∧ c.k = e.k)) (hi : e.i ≤ z.length) (hk : e.k < rows.length) (ha : e.a < s.length) (hb : e.b < s.length) (hne : e.a ≠ e.b)
    (fr : ∀ x, (x = e.a ∨ x = e.b) → x ≠ o ∧ x ≠ dk ∧ ∀ c ∈ M, x ≠ c.a ∧ x ≠ c.b) (K : MeOk ws rows z s e) : OrAt o dk lo ws rows z (M ++ [e]) (s.set dk (some (.dt ((M ++ [e]).map Me.key) ((M ++ [e]).map Me.val)))) := by
  have l2 := (List.getElem?_eq_some_iff.mp A.d).1
  obtain ⟨h1, h2, h3⟩ := A.ne
  have at_ : ∀ {j}, j ≠ dk → (s.set dk (some (.dt ((M ++ [e]).map Me.key) ((M ++ [e]).map Me.val))))[j]? = s[j]? := fun h => List.getElem?_set_ne (Ne.symm h)
  obtain ⟨fa1, fa2, fa3⟩ := fr e.a (.inl rfl)
  obtain ⟨fb1, fb2, fb3⟩ := fr e.b (.inr rfl)
  refine ⟨(at_ h1).trans A.ho, g_set l2, ?_, ?_, fun c hc => ?_, fun c hc hlo => ?_⟩
  · rw [List.map_append]
    refine List.nodup_append.mpr ⟨A.nk, by simp, fun x hx y hy e' => ?_⟩
    obtain ⟨c, hc, rfl⟩ := List.mem_map.mp hx
    have hy : y = e.key := by simpa using hy
    subst hy
    have e' : ([.inl ((c.i : Nat) : Int), .inl ((c.k : Nat) : Int)] : List Key) = [.inl ((e.i : Nat) : Int), .inl ((e.k : Nat) : Int)] := e'
    injection e' with e1 e'
    injection e' with e2 _
    injection e1 with e1
    injection e2 with e2
    exact hno c hc ⟨by omega, by omega⟩
  · have nr := A.nr
    obtain ⟨n1, nr⟩ := List.nodup_cons.mp nr
    obtain ⟨n2, nr⟩ := List.nodup_cons.mp nr
    have hf : (M ++ [e]).flatMap (fun e => [e.a, e.b]) = M.flatMap (fun e => [e.a, e.b]) ++ [e.a, e.b] := by
      rw [List.flatMap_append]; simp
    rw [hf]
    have hin : ∀ x ∈ [e.a, e.b], x = e.a ∨ x = e.b := fun x hx => by simpa using hx
    refine List.nodup_cons.mpr ⟨fun h => ?_, List.nodup_cons.mpr ⟨fun h => ?_, List.nodup_append.mpr ⟨nr, by simpa using hne, fun x hx y hy e' => ?_⟩⟩⟩
    · rcases List.mem_cons.mp h with h | h
      · exact h1 h
      rcases List.mem_append.mp h with h | h
      · exact n1 (List.mem_cons_of_mem _ h)
      · exact (fr o (hin o h)).1 rfl
    · rcases List.mem_append.mp h with h | h
      · exact n2 h
      · exact (fr dk (hin dk h)).2.1 rfl
    · subst e'
      obtain ⟨c, hc, hx⟩ := List.mem_flatMap.mp hx
      obtain ⟨_, _, f3⟩ := fr x (hin x hy)
      have hx : x = c.a ∨ x = c.b := by simpa using hx
      rcases hx with rfl | rfl
      · exact (f3 c hc).1 rfl
      · exact (f3 c hc).2 rfl
  · rw [List.length_set]
    rcases List.mem_append.mp hc with hc | hc
    · exact A.lt c hc
    · rw [List.mem_singleton.mp hc]
      exact ⟨hi, hk, ha, hb⟩
  · rcases List.mem_append.mp hc with hc | hc
    · obtain ⟨_, _, a3, a4, _⟩ := h2 c hc
      exact (A.ok c hc hlo).at_ (at_ a3) (at_ a4)
    · rw [List.mem_singleton.mp hc]
      exact K.at_ (at_ fa2) (at_ fb2)
theorem OrFr.add {i : Nat} (e : Me) (hi : e.i = i) (ha : s.length ≤ e.a) (hb : s.length ≤ e.b) (hlen : s.length ≤ s'.length) (hat : ∀ j, j < s.length → j ≠ dk → s'[j]? = s[j]?) : OrFr dk i M (M ++ [e]) s s' := by
  refine ⟨hlen, fun c hc _ => List.mem_append_left _ hc, fun c hc h => ?_, fun j hj hd _ => hat j hj hd, fun c hc h => ?_⟩
  · rcases List.mem_append.mp hc with hc | hc
    · exact hc
    · rw [List.mem_singleton.mp hc] at h; omega
  · rcases List.mem_append.mp hc with hc | hc
    · exact ⟨.inr ⟨c, hc, h, rfl⟩, .inr ⟨c, hc, h, rfl⟩⟩
    · rw [List.mem_singleton.mp hc]; exact ⟨.inl ha, .inl hb⟩
theorem es_mo (e : Me) (v : D) (hv : v = e.val) : (DV.t ((M.map fun e => (e.key, e.val)) ++ [([.inl ((e.i : Nat) : Int), .inl ((e.k : Nat) : Int)], v)])).mo = .dt ((M ++ [e]).map Me.key) ((M ++ [e]).map Me.val) := by
  subst hv
  show MO.dt (((M.map fun e => (e.key, e.val)) ++ [(e.key, e.val)]).map (·.1)) (((M.map fun e => (e.key, e.val)) ++ [(e.key, e.val)]).map (·.2)) = _
  rw [List.map_append, List.map_append, List.map_map, List.map_map, List.map_append, List.map_append]; rfl
theorem fm_some {α β : Type} {f : α → Option β} {g : α → β} : ∀ {l : List α}, (∀ x ∈ l, f x = some (g x)) → l.filterMap f = l.map g
  | [], _ => rfl
  | x :: l, h => by rw [List.filterMap_cons, h x List.mem_cons_self, List.map_cons, fm_some fun y hy => h y (List.mem_cons_of_mem _ hy)]
/-- the first split of the rest behind a word -/
noncomputable def hdW (ws rows : List D) (z : Str) (i : Nat) (x : D) : List D := x :: ((srtW ws rows z (i + lnW x) (kd x))[0]?).getD []
theorem hd_some (G : Gvn m ws rows z) {i k : Nat} : ∃ t, (srtW ws rows z i k)[0]? = some t := by
  have h := all_ne G.ok (fun i hi => st_ne hi) i
  have hp := (srt_perm (W := stW ws rows z) (ln := lnW) (n := z.length) (le := leL rows) i k)
  cases e : srtW ws rows z i k with
  | nil =>
    have e : srt (stW ws rows z) lnW z.length (leL rows) i k = [] := e
    rw [e] at hp
    exact absurd hp.nil_eq.symm h
  | cons t l => exact ⟨t, rfl⟩
end
section
variable (ds : List D) (s : Sto) (Q : D → Sto → Prop) (E : XD)
theorem begun_ret {o dk lo i k : Nat} {ws rows : List D} {z : Str} {M : List Me} {x3 x4 : Option D} {e : Me} (A : OrAt o dk lo ws rows z M s) (he : e ∈ M) (hi : e.i = i) (hk : e.k = k) (q : Q e.val s) :
    (dRet (dDGet (dFld "Order" "split_known" (dVar 0)) (dTup (dCons (dVar 1) (dCons (dVar 2) dNil))))) (endsOf Q) [some (.ref o), some (inD i), some (inD k), x3, x4] s :=
  ⟨_, rfl, o, _, _, rfl, A.ho, rfl, _, rfl, _, rfl, Dl.ll, _, _, dictD_T A.d, me_get A.nk he hi hk, q⟩
theorem pf_Order_split_begun (n : Nat) (h : sp_Order_split_begunN n ds s Q E) : b_Order_split_begun (sp_Order_split_aheadN n) (endsOf Q) (envD ["self", "place", "kind", "waiting", "word"] ds) s := by
  obtain ⟨o, dk, lo, m, ws, rows, z, M, i, k, rfl, A, G, ⟨hlo, hi, hn⟩, hk, q⟩ := h
  have hL := sizeLine_eq
  have hz := G.zl
  have hr := G.B.rl
  have lo1 := (List.getElem?_eq_some_iff.mp A.ho).1
  have ld1 := (List.getElem?_eq_some_iff.mp A.d).1
  by_cases hex : ∃ e ∈ M, e.i = i ∧ e.k = k
  · obtain ⟨e, he, hei, hek⟩ := hex
    refine ⟨_, rfl, _, rfl, Dl.ll, _, rfl, o, _, _, rfl, A.ho, rfl, _, _, dictD_T A.d, me_get A.nk he hei hek, _, rfl, ifF ?_⟩
    dsimp only [dNext]
    exact begun_ret s Q A he hei hek (q M s e A OrFr.refl he hei hek)
  have hno : ∀ e ∈ M, ¬ (e.i = i ∧ e.k = k) := fun e he h => hex ⟨e, he, h⟩
  obtain ⟨L, hL1, hL2, hL3⟩ := row_at G.B.rr hk
  refine ⟨_, rfl, _, rfl, Dl.ll, _, rfl, o, _, _, rfl, A.ho, rfl, _, _, dictD_T A.d, me_no hno, _, rfl, ifT ?_⟩
  refine ⟨_, rfl, _, rfl, o, _, _, rfl, A.ho, rfl, _, eq_ii, _, rfl, ?_⟩
  by_cases hiz : i = z.length
  · rw [show (((i : Nat) : Int) == ((z.length : Nat) : Int)) = true from beq_iff_eq.mpr (by omega)]
    have s2l : ((s ++ [some (MO.lst [.tup [.int (jn rows k (rows.length - 1)), .int 0, .tup [], .tup []]])]) ++ [some (MO.lst [])]).length = s.length + 2 := by simp
    have s1l : (s ++ [some (MO.lst [.tup [.int (jn rows k (rows.length - 1)), .int 0, .tup [], .tup []]])]).length = s.length + 1 := by simp
    have b2 : ∀ j, j < s.length → ((s ++ [some (MO.lst [.tup [.int (jn rows k (rows.length - 1)), .int 0, .tup [], .tup []]])]) ++ [some (MO.lst [])])[j]? = s[j]? := fun j hj => by
      rw [List.getElem?_append_left (by omega), List.getElem?_append_left hj]
    have ga : ((s ++ [some (MO.lst [.tup [.int (jn rows k (rows.length - 1)), .int 0, .tup [], .tup []]])]) ++ [some (MO.lst [])])[s.length]? = some (some (MO.lst [.tup [.int (jn rows k (rows.length - 1)), .int 0, .tup [], .tup []]])) := by
      rw [List.getElem?_append_left (by omega), List.getElem?_append_right (Nat.le_refl _), Nat.sub_self]; rfl
    have gb : ((s ++ [some (MO.lst [.tup [.int (jn rows k (rows.length - 1)), .int 0, .tup [], .tup []]])]) ++ [some (MO.lst [])])[s.length + 1]? = some (some (MO.lst [])) := by
      rw [List.getElem?_append_right (by omega), s1l, Nat.sub_self]; rfl
    refine ifT ⟨_, rfl, o, _, _, rfl, A.ho, rfl, _, rfl, L, hL1 _, _, rfl, _, hL3 _, Dl.ll, Dl.ll, Dl.ll, Dl.ll, Dl.ll, Dl.ll, ?_⟩
    rw [s1l]
    generalize (s ++ [some (MO.lst [.tup [.int (jn rows k (rows.length - 1)), .int 0, .tup [], .tup []]])]) ++ [some (MO.lst [])] = s2 at s2l b2 ga gb
    have A2 := A.grow (by omega) b2
    have K : MeOk ws rows z s2 ⟨i, k, s.length, s.length + 1, 1, []⟩ := by
      have hs : srtW ws rows z i k = [[]] := srt_end (by omega) k
      refine ⟨?_, gb, ?_, ?_, fun _ => rfl⟩
      · show s2[s.length]? = some (some (.lst (((srtW ws rows z i k).take 1).map (eD rows k))))
        rw [hs]; exact ga
      · show 1 ≤ (srtW ws rows z i k).length
        rw [hs]; decide
      · show [].Perm (canW ws rows z i k 1)
        have : canW ws rows z i k 1 = [] := by
          show (stW ws rows z i).filterMap _ = []
          rw [W_end G.ok (by omega)]; rfl
        rw [this]
    have A3 := A2.add (e := ⟨i, k, s.length, s.length + 1, 1, []⟩) hno hi hk (by show s.length < _; omega) (by show s.length + 1 < _; omega) (by show s.length ≠ s.length + 1; omega) (fun x hx => by
      have hx : x = s.length ∨ x = s.length + 1 := hx
      exact ⟨by omega, by omega, fun c hc => by have := A.lt c hc; exact ⟨by omega, by omega⟩⟩) K
    have F3 : OrFr dk i M (M ++ [(⟨i, k, s.length, s.length + 1, 1, []⟩ : Me)]) s (s2.set dk (some (.dt ((M ++ [(⟨i, k, s.length, s.length + 1, 1, []⟩ : Me)]).map Me.key) ((M ++ [(⟨i, k, s.length, s.length + 1, 1, []⟩ : Me)]).map Me.val)))) :=
      OrFr.add _ rfl (Nat.le_refl _) (Nat.le_succ _) (by rw [List.length_set]; omega) fun j hj hd => by rw [List.getElem?_set_ne (Ne.symm hd)]; exact b2 j hj
    have hfew := A.few G
    refine ⟨_, rfl, o, _, _, rfl, A2.ho, rfl, _, rfl, _, rfl, Dl.ll, dk, _, _, rfl, dictM_T A2.d, me_put hno, ?_, ?_⟩
    · show ((M.map Me.key).zip (M.map Me.val)).length < sizeLine
      rw [zip_me, List.length_map]; omega
    have hmo : (DV.t ((M.map fun e => (e.key, e.val)) ++ [([.inl ((i : Nat) : Int), .inl ((k : Nat) : Int)], .tup [.ref s.length, .ref (s.length + 1)])])).mo = .dt ((M ++ [(⟨i, k, s.length, s.length + 1, 1, []⟩ : Me)]).map Me.key) ((M ++ [(⟨i, k, s.length, s.length + 1, 1, []⟩ : Me)]).map Me.val) := es_mo (⟨i, k, s.length, s.length + 1, 1, []⟩ : Me) _ rfl
    rw [hmo]
    exact begun_ret _ Q A3 (List.mem_append_right _ List.mem_cons_self) rfl rfl (q _ _ _ A3 F3 (List.mem_append_right _ List.mem_cons_self) rfl rfl)
  · rw [show (((i : Nat) : Int) == ((z.length : Nat) : Int)) = false from beq_eq_false_iff_ne.mpr (by omega)]
    have hil : i < z.length := by omega
    have hst : stW ws rows z i = rawD (z.cps.toList.getD i 0) ((rows.length : Int) - 1) :: ws.filter (standsAt z.cps.toList i) := by
      unfold stW
      rw [if_pos hil]; rfl
    have hidx : ∀ s', idxF s' (.lst ((List.range z.length).map (rowAt ws ((rows.length : Int) - 1) z.cps.toList))) (inD i) = some (.lst (stW ws rows z i)) := fun s' => by
      rw [hst]
      show atI ((List.range z.length).map (rowAt ws ((rows.length : Int) - 1) z.cps.toList)) ((i : Nat) : Int) = _
      rw [atI_in (by omega) (by rw [List.length_map, List.length_range]; omega), Int.toNat_natCast, List.getElem?_map, List.getElem?_range hil]; rfl
    have hsl : (stW ws rows z i).length ≤ 1001 := by
      rw [hst, List.length_cons]
      have h1 := List.length_filter_le (standsAt z.cps.toList i) ws
      have h2 := G.B.wl
      have h3 := G.m
      omega
    refine ifF ⟨_, rfl, o, _, _, rfl, A.ho, rfl, _, rfl, _, hidx _, _, _, isW_lst, le_line (by omega), ?_⟩
    refine lcD_run (fun rest acc s' => ∃ (M' : List Me) (pre : List D), stW ws rows z i = pre ++ rest ∧ acc = pre.map (fun x => wtD rows k (hdW ws rows z i x, x, 0)) ∧ OrAt o dk lo ws rows z M' s' ∧ OrFr dk (i + 1) M M' s s') ?_ (acc := []) ⟨M, [], rfl, rfl, A, OrFr.refl⟩ ?_
    · rintro x rest acc s' ⟨M', pre, hpre, rfl, A', F'⟩ k1 k0 g1 g0
      have hx : x ∈ stW ws rows z i := by rw [hpre]; exact List.mem_append_right _ List.mem_cons_self
      obtain ⟨_, l1, l2⟩ := st_ok G.B hx
      obtain ⟨t, ht⟩ := hd_some G (i := i + lnW x) (k := kd x)
      refine ⟨trivial, ?_⟩
      refine ⟨_, rfl, o, _, rfl, A'.ho, rfl, _, rfl, _, rfl, _, rfl, o, dk, lo, m, ws, rows, z, M', i, k, 0, x, rfl, A', G, by omega, ⟨hx, by omega⟩, hk, by omega, fun M2 s2 A2 F2 => ?_⟩
      rw [ht]
      refine ⟨_, rfl, Dl.ll, g1 _ s2 ⟨M2, pre ++ [x], by rw [hpre, List.append_assoc]; rfl, ?_, A2, F'.trans F2⟩⟩
      rw [List.map_append]
      congr 1
      show [D.tup [eD rows k (x :: t), x, .int 0]] = [wtD rows k (hdW ws rows z i x, x, 0)]
      unfold hdW
      rw [ht]; rfl
    · rintro ys s' ⟨M', pre, hpre, hys, A', F'⟩
      rw [List.append_nil] at hpre
      rw [List.nil_append] at hys
      subst hys hpre
      refine ⟨trivial, ?_⟩
      have hw0 : (stW ws rows z i).map (fun x => wtD rows k (hdW ws rows z i x, x, 0)) = ((stW ws rows z i).map fun x => (hdW ws rows z i x, x, 0)).map (wtD rows k) := by rw [List.map_map]; rfl
      rw [hw0]
      have lo2 := (List.getElem?_eq_some_iff.mp A'.ho).1
      have ld2 := (List.getElem?_eq_some_iff.mp A'.d).1
      have s1l : (s' ++ [some (MO.lst (((stW ws rows z i).map fun x => (hdW ws rows z i x, x, 0)).map (wtD rows k)))]).length = s'.length + 1 := by simp
      have s2l : ((s' ++ [some (MO.lst (((stW ws rows z i).map fun x => (hdW ws rows z i x, x, 0)).map (wtD rows k)))]) ++ [some (MO.lst [])]).length = s'.length + 2 := by simp
      have b2 : ∀ j, j < s'.length → ((s' ++ [some (MO.lst (((stW ws rows z i).map fun x => (hdW ws rows z i x, x, 0)).map (wtD rows k)))]) ++ [some (MO.lst [])])[j]? = s'[j]? := fun j hj => by
        rw [List.getElem?_append_left (by omega), List.getElem?_append_left hj]
      have gb : ((s' ++ [some (MO.lst (((stW ws rows z i).map fun x => (hdW ws rows z i x, x, 0)).map (wtD rows k)))]) ++ [some (MO.lst [])])[s'.length]? = some (some (MO.lst (((stW ws rows z i).map fun x => (hdW ws rows z i x, x, 0)).map (wtD rows k)))) := by
        rw [List.getElem?_append_left (by omega), List.getElem?_append_right (Nat.le_refl _), Nat.sub_self]; rfl
      have ga : ((s' ++ [some (MO.lst (((stW ws rows z i).map fun x => (hdW ws rows z i x, x, 0)).map (wtD rows k)))]) ++ [some (MO.lst [])])[s'.length + 1]? = some (some (MO.lst [])) := by
        rw [List.getElem?_append_right (by omega), s1l, Nat.sub_self]; rfl
      refine ⟨Dl.ll, _, rfl, Dl.ll, ?_⟩
      rw [s1l]
      generalize (s' ++ [some (MO.lst (((stW ws rows z i).map fun x => (hdW ws rows z i x, x, 0)).map (wtD rows k)))]) ++ [some (MO.lst [])] = s2 at s2l b2 ga gb
      have hno2 : ∀ e ∈ M', ¬ (e.i = i ∧ e.k = k) := fun e he h => hno e (F'.new e he (by omega)) h
      have A2 := A'.grow (by omega) b2
      have K : MeOk ws rows z s2 ⟨i, k, s'.length + 1, s'.length, 0, (stW ws rows z i).map fun x => (hdW ws rows z i x, x, 0)⟩ := by
        refine ⟨ga, gb, Nat.zero_le _, ?_, fun h => absurd h (by show ¬ z.length ≤ i; omega)⟩
        show ((stW ws rows z i).map fun x => (hdW ws rows z i x, x, 0)).Perm (canW ws rows z i k 0)
        have : canW ws rows z i k 0 = (stW ws rows z i).map fun x => (hdW ws rows z i x, x, 0) := by
          show canon _ _ _ _ _ _ _ _ = _
          rw [canon_zero G.ok]
          refine fm_some fun x hx => ?_
          obtain ⟨t, ht⟩ := hd_some G (i := i + lnW x) (k := kd x)
          unfold hdW
          have ht' : (srt (stW ws rows z) lnW z.length (leL rows) (i + lnW x) (kd x))[0]? = some t := ht
          rw [ht]; rfl
        rw [this]
      have A3 := A2.add (e := ⟨i, k, s'.length + 1, s'.length, 0, (stW ws rows z i).map fun x => (hdW ws rows z i x, x, 0)⟩) hno2 hi hk (by show s'.length + 1 < _; omega) (by show s'.length < _; omega) (by show s'.length + 1 ≠ s'.length; omega) (fun x hx => by
        have hx : x = s'.length + 1 ∨ x = s'.length := hx
        exact ⟨by omega, by omega, fun c hc => by have := A'.lt c hc; exact ⟨by omega, by omega⟩⟩) K
      have F3 : OrFr dk i M' (M' ++ [(⟨i, k, s'.length + 1, s'.length, 0, (stW ws rows z i).map fun x => (hdW ws rows z i x, x, 0)⟩ : Me)]) s' (s2.set dk (some (.dt ((M' ++ [(⟨i, k, s'.length + 1, s'.length, 0, (stW ws rows z i).map fun x => (hdW ws rows z i x, x, 0)⟩ : Me)]).map Me.key) ((M' ++ [(⟨i, k, s'.length + 1, s'.length, 0, (stW ws rows z i).map fun x => (hdW ws rows z i x, x, 0)⟩ : Me)]).map Me.val)))) :=
        OrFr.add _ rfl (Nat.le_succ _) (Nat.le_refl _) (by rw [List.length_set]; omega) fun j hj hd => by rw [List.getElem?_set_ne (Ne.symm hd)]; exact b2 j hj
      have hfew := A'.few G
      refine ⟨_, rfl, o, _, _, rfl, A2.ho, rfl, _, rfl, _, rfl, Dl.ll, dk, _, _, rfl, dictM_T A2.d, me_put hno2, ?_, ?_⟩
      · show ((M'.map Me.key).zip (M'.map Me.val)).length < sizeLine
        rw [zip_me, List.length_map]; omega
      have hmo : (DV.t ((M'.map fun e => (e.key, e.val)) ++ [([.inl ((i : Nat) : Int), .inl ((k : Nat) : Int)], .tup [.ref (s'.length + 1), .ref s'.length])])).mo = .dt ((M' ++ [(⟨i, k, s'.length + 1, s'.length, 0, (stW ws rows z i).map fun x => (hdW ws rows z i x, x, 0)⟩ : Me)]).map Me.key) ((M' ++ [(⟨i, k, s'.length + 1, s'.length, 0, (stW ws rows z i).map fun x => (hdW ws rows z i x, x, 0)⟩ : Me)]).map Me.val) := es_mo (⟨i, k, s'.length + 1, s'.length, 0, (stW ws rows z i).map fun x => (hdW ws rows z i x, x, 0)⟩ : Me) _ rfl
      rw [hmo]
      exact begun_ret _ Q A3 (List.mem_append_right _ List.mem_cons_self) rfl rfl (q _ _ _ A3 ((F'.mono (Nat.le_succ _)).trans F3) (List.mem_append_right _ List.mem_cons_self) rfl rfl)
end
end Od
set_option Elab.async false
set_option linter.all false
set_option autoImplicit false
set_option maxRecDepth 100000
set_option maxHeartbeats 600000
namespace Od
open PySem PySem.Spec PyProof.Rows L2 Dl Bk
open Fb (pairD rdOf standsAt rawD stRow rowAt stands_len jn kd cs costF Part cps_len sp_kind_behind sp_standing part_shape row_at)
open Fa (ifD ifB ifT ifF fapp leP leP_trans leP_total leP_toks)
/-- what a split is put in order by -/
def k3D (rows : List D) (k : Nat) (l : List D) : D := .tup [.int (costF rows k l), inD l.length, .tup (l.map pairD)]
theorem py_map (f : D → D) : ∀ l : List D, pyL (l.map f) = l.map fun x => pyD (f x)
  | [] => by simp [pyL]
  | x :: l => by rw [List.map_cons, List.map_cons]; simp only [pyL]; rw [py_map f l]
theorem py_k3 (rows : List D) (k : Nat) (l : List D) : pyD (k3D rows k l) = keyP rows k l := by
  unfold k3D keyP pairP
  simp only [pyD, pyL]
  rw [py_map]
theorem minT_le : ∀ (ds : List D) (d : D), ∀ x ∈ d :: ds, leP (pyD (minT d ds)) (pyD x) = true
  | [], d, x, hx => by
    rw [List.mem_singleton.mp hx]
    have := leP_total (a := pyD d) (b := pyD d)
    rw [Bool.or_self] at this; exact this
  | y :: ds, d, x, hx => by
    have h := minT_le ds (if PySem.W.dataLt (pyD y) (pyD d) then y else d)
    have e : minT d (y :: ds) = minT (if PySem.W.dataLt (pyD y) (pyD d) then y else d) ds := rfl
    rw [e]
    have h0 := h _ List.mem_cons_self
    have hd : leP (pyD (if PySem.W.dataLt (pyD y) (pyD d) then y else d)) (pyD d) = true ∧ leP (pyD (if PySem.W.dataLt (pyD y) (pyD d) then y else d)) (pyD y) = true := by
      cases hlt : PySem.W.dataLt (pyD y) (pyD d) with
      | true =>
        rw [if_pos rfl]
        have hr := leP_total (a := pyD y) (b := pyD y)
        rw [Bool.or_self] at hr
        exact ⟨Fa.leP_lt hlt, hr⟩
      | false =>
        rw [if_neg (by decide)]
        have hr := leP_total (a := pyD d) (b := pyD d)
        rw [Bool.or_self] at hr
        exact ⟨hr, by unfold leP; rw [hlt]; rfl⟩
    rcases List.mem_cons.mp hx with rfl | hx
    · exact leP_trans h0 hd.1
    rcases List.mem_cons.mp hx with rfl | hx
    · exact leP_trans h0 hd.2
    · exact h x (List.mem_cons_of_mem _ hx)
theorem first_idx {l : List D} {x : D} (h : x ∈ l) : ∃ i : Nat, l[i]? = some x ∧ ∀ m, m < i → l[m]? ≠ some x := by
  induction l with
  | nil => cases h
  | cons y l ih =>
    by_cases e : y = x
    · exact ⟨0, by rw [e]; rfl, fun m hm => absurd hm (Nat.not_lt_zero _)⟩
    · rcases List.mem_cons.mp h with h | h
      · exact absurd h.symm e
      · obtain ⟨i, h1, h2⟩ := ih h
        refine ⟨i + 1, by simpa using h1, fun m hm => ?_⟩
        cases m with
        | zero => simpa using e
        | succ m => simpa using h2 m (by omega)
theorem len_r {s : Sto} {l : Nat} {xs : List D} (h : s[l]? = some (some (.lst xs))) : lenF s [.ref l] = some (.int xs.length) := by
  show (seqL s (.ref l)).map _ = _
  rw [seqL_ref h]; rfl
theorem ne_nilR {s : Sto} {l : Nat} {xs : List D} (h : s[l]? = some (some (.lst xs))) : neF s (.ref l) (.lst []) = some (.bl (!decide (xs = []))) := by
  unfold neF
  rw [drf_ref h, drf_lst]
  have := ne_l0 (s := s) (xs := xs)
  unfold neF at this
  rw [drf_lst, drf_lst] at this
  exact this
theorem fpop {xs : List D} {i : Int} {y : D} (i0 : 0 ≤ i) (h : xs[i.toNat]? = some y) (hl : xs.length ≤ 100000) : fPop xs [.int i] = some (y, xs.eraseIdx i.toNat) := by
  have hi := (List.getElem?_eq_some_iff.mp h).1
  show (if -(2 ^ 63) ≤ i ∧ i < 2 ^ 63 then (match ixN xs.length i with
    | some k => (xs[k]?).map fun y => (y, xs.eraseIdx k)
    | none => none) else none) = _
  rw [if_pos ⟨by omega, by omega⟩, ixN_in i0 (by omega)]
  show (xs[i.toNat]?).map _ = _
  rw [h]; rfl
theorem alike_pairs : ∀ (a b : List PyData), (∀ x ∈ a, ∃ u v, x = .tuple [.str u, .str v]) → (∀ x ∈ b, ∃ u v, x = .tuple [.str u, .str v]) → PySem.W.alikeAll a b = true
  | [], _, _, _ => by simp [PySem.W.alikeAll]
  | _ :: _, [], _, _ => by simp [PySem.W.alikeAll]
  | x :: a, y :: b, ha, hb => by
    obtain ⟨u, v, rfl⟩ := ha x List.mem_cons_self
    obtain ⟨u', v', rfl⟩ := hb y List.mem_cons_self
    have := alike_pairs a b (fun x hx => ha x (List.mem_cons_of_mem _ hx)) fun x hx => hb x (List.mem_cons_of_mem _ hx)
    simp [PySem.W.alikeAll, PySem.W.alike, this]
theorem depth_pairs : ∀ (a : List PyData), (∀ x ∈ a, ∃ u v, x = .tuple [.str u, .str v]) → PyData.depthAll a ≤ 1
  | [], _ => by simp [PyData.depthAll]
  | x :: a, ha => by
    obtain ⟨u, v, rfl⟩ := ha x List.mem_cons_self
    have := depth_pairs a fun x hx => ha x (List.mem_cons_of_mem _ hx)
    simp [PyData.depthAll, PyData.depth]
    omega
section
variable {m : Nat} {ws rows : List D} {z : Str}
/-- words with signs that are signs -/
def Wok (x : D) : Prop := ∃ (r w : Str) (c : Int) (k : Nat), x = .tup [.str r, .str w, .int c, inD k] ∧ PyData.strOk r = true ∧ PyData.strOk w = true
theorem strOk_sgn {r z : Str} (hr : ∀ x ∈ r.cps.toList, x < 128) (h : sgnIn r z = true) : PyData.strOk z = true := by
  unfold PyData.strOk
  rw [← Array.all_toList]
  refine List.all_eq_true.mpr fun c hc => decide_eq_true ?_
  have h1 := of_decide_eq_true (List.all_eq_true.mp h c hc)
  have := hr c h1
  omega
theorem az128 : ∀ x ∈ (az : Str).cps.toList, x < 128 := by decide +kernel
theorem AZ128 : ∀ x ∈ (AZ : Str).cps.toList, x < 128 := by decide +kernel
theorem st_wok (G : Gvn m ws rows z) {i : Nat} {x : D} (h : x ∈ stW ws rows z i) : Wok x := by
  obtain ⟨hi, h'⟩ := st_mem G.B h
  obtain ⟨r, w, c, k, rfl, hk, _⟩ := st_shape G h
  refine ⟨r, w, c, k, rfl, ?_⟩
  rcases h' with e | ⟨h', _⟩
  · have e : D.tup [.str r, .str w, .int c, inD k] = rawD (z.cps.toList.getD i 0) ((rows.length : Int) - 1) := e
    unfold rawD at e
    injection e with e
    injection e with e1 e
    injection e with e2 e
    injection e1 with e1
    injection e2 with e2
    have hl : i < z.cps.toList.length := by rw [cps_len]; exact hi
    have hc : z.cps.toList.getD i 0 ∈ z.cps.toList := by
      rw [List.getD_eq_getElem?_getD, List.getElem?_eq_getElem hl]
      exact List.getElem_mem hl
    have h1 := az128 _ (of_decide_eq_true (List.all_eq_true.mp G.zs _ hc))
    have h2 : PyData.strOk ⟨#[z.cps.toList.getD i 0]⟩ = true := by
      unfold PyData.strOk
      rw [← Array.all_toList]
      refine List.all_eq_true.mpr fun c hc => decide_eq_true ?_
      have : c = z.cps.toList.getD i 0 := by simpa using hc
      omega
    rw [e1, e2]; exact ⟨h2, h2⟩
  · obtain ⟨r', w', c', k', e, ok⟩ := G.B.ww _ h'
    injection e with e
    injection e with e1 e
    injection e with e2 e
    injection e1 with e1
    injection e2 with e2
    rw [e1, e2]
    exact ⟨strOk_sgn az128 ok.r1, strOk_sgn AZ128 ok.w1⟩
theorem all_wok (G : Gvn m ws rows z) : ∀ {l : List D} {i : Nat}, l ∈ all (stW ws rows z) lnW z.length i → ∀ x ∈ l, Wok x
  | [], _, _, _, hx => nomatch hx
  | y :: l, i, h, x, hx => by
    by_cases hi : i < z.length
    · obtain ⟨y', t, e, hy, ht⟩ := (mem_all G.ok hi).mp h
      obtain ⟨rfl, rfl⟩ := List.cons.inj e
      rcases List.mem_cons.mp hx with rfl | hx
      · exact st_wok G hy
      · exact all_wok G ht x hx
    · rw [all_end (by omega)] at h
      cases List.mem_singleton.mp h
theorem pt_k3 {rows : List D} {k : Nat} {l : List D} (h : ∀ x ∈ l, Wok x) : ptD (k3D rows k l) = true := by
  have hp : ∀ l : List D, (∀ x ∈ l, Wok x) → ptL (l.map pairD) = true := by
    intro l
    induction l with
    | nil => intro _; rfl
    | cons y l ih =>
      intro h
      obtain ⟨r, w, c, k, rfl, h1, h2⟩ := h y List.mem_cons_self
      show ((PyData.strOk r && (PyData.strOk w && true)) && ptL (l.map pairD)) = true
      rw [h1, h2, ih fun x hx => h x (List.mem_cons_of_mem _ hx)]; rfl
  show (true && (true && (ptL (l.map pairD) && true))) = true
  rw [hp l h]; rfl
theorem pair_form {l : List D} (h : ∀ x ∈ l, Wok x) : ∀ p ∈ l.map pairP, ∃ u v, p = .tuple [.str u, .str v] := fun p hp => by
  obtain ⟨x, hx, rfl⟩ := List.mem_map.mp hp
  obtain ⟨r, w, c, k, rfl, _⟩ := h x hx
  exact ⟨r, w, by show pyD (.tup [.str r, .str w]) = _; simp only [pyD, pyL]⟩
theorem alike_k3 {rows : List D} {k : Nat} {a b : List D} (ha : ∀ x ∈ a, Wok x) (hb : ∀ x ∈ b, Wok x) : PySem.W.alike (keyP rows k a) (keyP rows k b) = true := by
  unfold keyP
  simp [PySem.W.alike, PySem.W.alikeAll, alike_pairs _ _ (pair_form ha) (pair_form hb)]
theorem depth_k3 {rows : List D} {k : Nat} {a : List D} (ha : ∀ x ∈ a, Wok x) : (keyP rows k a).depth ≤ 3 := by
  have := depth_pairs _ (pair_form ha)
  unfold keyP
  simp [PyData.depth, PyData.depthAll]
  omega
/-- a list of such keys -/
theorem keys_ok {rows : List D} {k : Nat} {ls : List (List D)} (h : ∀ l ∈ ls, ∀ x ∈ l, Wok x) : MinOk (ls.map (k3D rows k)) := by
  have hp : ∀ ls : List (List D), (∀ l ∈ ls, ∀ x ∈ l, Wok x) → ptL (ls.map (k3D rows k)) = true ∧ PyData.depthAll (pyL (ls.map (k3D rows k))) ≤ 3 := by
    intro ls
    induction ls with
    | nil => intro _; exact ⟨rfl, by simp [pyL, PyData.depthAll]⟩
    | cons l ls ih =>
      intro h
      obtain ⟨i1, i2⟩ := ih fun l hl => h l (List.mem_cons_of_mem _ hl)
      have h1 := pt_k3 (rows := rows) (k := k) (h l List.mem_cons_self)
      have h2 := depth_k3 (rows := rows) (k := k) (h l List.mem_cons_self)
      refine ⟨by show (ptD (k3D rows k l) && ptL _) = true; rw [h1, i1]; rfl, ?_⟩
      rw [List.map_cons]
      simp only [pyL, PyData.depthAll]
      rw [py_k3]
      omega
  obtain ⟨h1, h2⟩ := hp ls h
  refine ⟨h1, fun x hx y hy => ?_, by omega⟩
  obtain ⟨d, hd, rfl⟩ := py_mem hx
  obtain ⟨e, he, rfl⟩ := py_mem hy
  obtain ⟨a, ha, rfl⟩ := List.mem_map.mp hd
  obtain ⟨b, hb, rfl⟩ := List.mem_map.mp he
  rw [py_k3, py_k3]
  exact alike_k3 (h a ha) (h b hb)
theorem k3_inj (G : Gvn m ws rows z) {i k : Nat} {a b : List D} (ha : a ∈ all (stW ws rows z) lnW z.length i) (hb : b ∈ all (stW ws rows z) lnW z.length i) (h : k3D rows k a = k3D rows k b) : a = b := by
  have hk : keyP rows k a = keyP rows k b := by rw [← py_k3, ← py_k3, h]
  have hr := G.ok.tot k a a
  rw [Bool.or_self] at hr
  refine G.ok.as i k a b ha hb ?_ ?_
  · unfold leL at hr ⊢
    rw [← hk]; exact hr
  · unfold leL at hr ⊢
    rw [← hk]; exact hr
end
section
variable {o dk lo m : Nat} {ws rows : List D} {z : Str} {M M' M2 : List Me} {s s' s2 : Sto}
theorem canon_det {i k f : Nat} (G : Gvn m ws rows z) (hi : i < z.length) {e : Wt} (he : e ∈ canW ws rows z i k f) : ∃ t, e = (e.2.1 :: t, e.2.1, cx (stW ws rows z) lnW z.length (leL rows) i k f e.2.1) := by
  have he : e ∈ canon (stW ws rows z) lnW kd z.length (leL rows) i k f := he
  unfold canon at he
  obtain ⟨x, hx, he⟩ := List.mem_filterMap.mp he
  obtain ⟨t, rfl, _, _⟩ := cand_mem G.ok hi hx he
  exact ⟨t, rfl⟩
/-- a list of a place is set: what is known of higher places stays whole -/
theorem OrAt.low {i : Nat} (A : OrAt o dk lo ws rows z M s) (hlo : lo ≤ i + 1) {e : Me} (he : e ∈ M) (hei : e.i = i) {j : Nat} {v : Option MO} (hj : j = e.a ∨ j = e.b) : OrAt o dk (i + 1) ws rows z M (s.set j v) := by
  obtain ⟨h1, h2, h3⟩ := A.ne
  obtain ⟨a1, a2, a3, a4, a5⟩ := h2 e he
  have at_ : ∀ {x}, x ≠ j → (s.set j v)[x]? = s[x]? := fun h => List.getElem?_set_ne (Ne.symm h)
  have jo : o ≠ j := fun h => by
    rcases hj with e' | e'
    · exact a1 (by rw [← e']; exact h.symm)
    · exact a2 (by rw [← e']; exact h.symm)
  have jd : dk ≠ j := fun h => by
    rcases hj with e' | e'
    · exact a3 (by rw [← e']; exact h.symm)
    · exact a4 (by rw [← e']; exact h.symm)
  refine ⟨(at_ jo).trans A.ho, (at_ jd).trans A.d, A.nk, A.nr, fun c hc => by rw [List.length_set]; exact A.lt c hc, fun c hc hlc => ?_⟩
  have hne : c ≠ e := fun h => by rw [h, hei] at hlc; omega
  obtain ⟨b1, b2, b3, b4⟩ := h3 c hc e he hne
  refine (A.ok c hc (by omega)).at_ (at_ fun h => ?_) (at_ fun h => ?_)
  · rcases hj with e' | e'
    · exact b1 (h.trans e')
    · exact b2 (h.trans e')
  · rcases hj with e' | e'
    · exact b3 (h.trans e')
    · exact b4 (h.trans e')
end
end Od
set_option Elab.async false
set_option linter.all false
set_option autoImplicit false
set_option maxRecDepth 100000
set_option maxHeartbeats 600000
namespace Od
open PySem PySem.Spec PyProof.Rows L2 Dl Bk
open Fb (pairD rdOf standsAt rawD stRow rowAt stands_len jn kd cs costF Part cps_len sp_kind_behind sp_standing part_shape row_at)
open Fa (ifD ifB ifT ifF fapp leP leP_trans leP_total leP_toks)
/-- an entry in the place of another -/
def rep (e ep : Me) (M : List Me) : List Me := M.map fun c => if c.i = e.i ∧ c.k = e.k then ep else c
section
variable {o dk lo m : Nat} {ws rows : List D} {z : Str} {M M' M2 : List Me} {s s' s2 : Sto} {e ep : Me}
theorem rep_map {β : Type} (f : Me → β) (h : f ep = f e) (nk : (M.map Me.key).Nodup) (he : e ∈ M) : (rep e ep M).map f = M.map f := by
  unfold rep
  rw [List.map_map]
  refine List.map_congr_left fun c hc => ?_
  show f (if c.i = e.i ∧ c.k = e.k then ep else c) = f c
  by_cases hce : c.i = e.i ∧ c.k = e.k
  · rw [if_pos hce, h, nk_inj nk hc he hce.1 hce.2]
  · rw [if_neg hce]
theorem mem_rep {c : Me} (nk : (M.map Me.key).Nodup) (he : e ∈ M) : c ∈ rep e ep M → c = ep ∨ (c ∈ M ∧ c ≠ e) := fun hc => by
  unfold rep at hc
  obtain ⟨d, hd, rfl⟩ := List.mem_map.mp hc
  by_cases hde : d.i = e.i ∧ d.k = e.k
  · rw [if_pos hde]; exact .inl rfl
  · rw [if_neg hde]; exact .inr ⟨hd, fun h => hde (by rw [h]; exact ⟨rfl, rfl⟩)⟩
theorem rep_in {c : Me} (nk : (M.map Me.key).Nodup) (he : e ∈ M) (hc : c ∈ M) (hne : c ≠ e) : c ∈ rep e ep M := by
  unfold rep
  refine List.mem_map.mpr ⟨c, hc, if_neg fun h => hne (nk_inj nk hc he h.1 h.2)⟩
theorem rep_self (he : e ∈ M) : ep ∈ rep e ep M := List.mem_map.mpr ⟨e, he, if_pos ⟨rfl, rfl⟩⟩
theorem OrAt.put (A : OrAt o dk (e.i + 1) ws rows z M s) (he : e ∈ M) (hi : ep.i = e.i) (hk : ep.k = e.k) (ha : ep.a = e.a) (hb : ep.b = e.b) (K : MeOk ws rows z s ep) (rest : ∀ c ∈ M, c ≠ e → lo ≤ c.i → c.i < e.i + 1 → MeOk ws rows z s c) : OrAt o dk lo ws rows z (rep e ep M) s := by
  have mk : (rep e ep M).map Me.key = M.map Me.key := rep_map Me.key (key_eq hi hk) A.nk he
  have mv : (rep e ep M).map Me.val = M.map Me.val := rep_map Me.val (by unfold Me.val; rw [ha, hb]) A.nk he
  have mr : ((rep e ep M).flatMap fun e => [e.a, e.b]) = M.flatMap fun e => [e.a, e.b] := by
    rw [List.flatMap_def, List.flatMap_def, rep_map (fun e => [e.a, e.b]) (by show [ep.a, ep.b] = [e.a, e.b]; rw [ha, hb]) A.nk he]
  refine ⟨A.ho, by rw [mk, mv]; exact A.d, by rw [mk]; exact A.nk, by rw [mr]; exact A.nr, fun c hc => ?_, fun c hc hlo => ?_⟩
  · rcases mem_rep A.nk he hc with rfl | ⟨hc, _⟩
    · rw [hi, hk, ha, hb]; exact A.lt e he
    · exact A.lt c hc
  · rcases mem_rep A.nk he hc with rfl | ⟨hc, hne⟩
    · exact K
    · by_cases h : e.i + 1 ≤ c.i
      · exact A.ok c hc h
      · exact rest c hc hne hlo (by omega)
theorem OrFr.put {i : Nat} {s4 : Sto} (A : OrAt o dk lo ws rows z M s) (he : e ∈ M) (hei : e.i = i) (F : OrFr dk (i + 1) M M' s2 s') (nk' : (M'.map Me.key).Nodup) (h2 : s2.length = s.length) (b2 : ∀ j, j ≠ e.a → j ≠ e.b → s2[j]? = s[j]?) (h4 : s4.length = s'.length) (b4 : ∀ j, j ≠ e.a → j ≠ e.b → s4[j]? = s'[j]?) (hi : ep.i = e.i) (ha : ep.a = e.a) (hb : ep.b = e.b) : OrFr dk i M (rep e ep M') s s4 := by
  have he' := F.low e he (by omega)
  refine ⟨by have := F.len; omega, fun c hc hci => ?_, fun c hc hci => ?_, fun j hj hd hn => ?_, fun c hc hci => ?_⟩
  · exact rep_in nk' he' (F.low c hc (by omega)) fun h => by rw [h] at hci; omega
  · rcases mem_rep nk' he' hc with rfl | ⟨hc, _⟩
    · omega
    · exact F.new c hc (by omega)
  · obtain ⟨n1, n2⟩ := hn e he (by omega)
    exact (b4 j n1 n2).trans ((F.at_ j (by omega) hd fun c hc h => hn c hc (by omega)).trans (b2 j n1 n2))
  · rcases mem_rep nk' he' hc with rfl | ⟨hc, _⟩
    · exact ⟨.inr ⟨e, he, by omega, ha.symm⟩, .inr ⟨e, he, by omega, hb.symm⟩⟩
    · by_cases h : i + 1 ≤ c.i
      · obtain ⟨oa, ob⟩ := F.own c hc h
        exact ⟨oa.imp (by omega) fun ⟨d, h1, h2, h3⟩ => ⟨d, h1, by omega, h3⟩, ob.imp (by omega) fun ⟨d, h1, h2, h3⟩ => ⟨d, h1, by omega, h3⟩⟩
      · have := F.new c hc (by omega)
        exact ⟨.inr ⟨c, this, hci, rfl⟩, .inr ⟨c, this, hci, rfl⟩⟩
end
theorem erase_perm {α : Type} : ∀ {l : List α} {i : Nat} {x : α}, l[i]? = some x → l.Perm (x :: l.eraseIdx i)
  | [], i, x, h => by simp at h
  | a :: l, 0, x, h => by
    rw [List.getElem?_cons_zero, Option.some.injEq] at h
    rw [h]; exact List.Perm.refl _
  | a :: l, i + 1, x, h => ((erase_perm (l := l) (by simpa using h)).cons a).trans (List.Perm.swap _ _ _)
theorem er_map {α β : Type} (f : α → β) : ∀ (l : List α) (i : Nat), (l.map f).eraseIdx i = (l.eraseIdx i).map f
  | [], _ => rfl
  | _ :: _, 0 => rfl
  | a :: l, i + 1 => congrArg (f a :: ·) (er_map f l i)
theorem canon_end {m : Nat} {ws rows : List D} {z : Str} (G : Gvn m ws rows z) {i k f : Nat} (h : z.length ≤ i) : canW ws rows z i k f = [] := by
  show (stW ws rows z i).filterMap _ = []
  rw [W_end G.ok h]; rfl
/-- the rest of what waits -/
theorem wt_next {m : Nat} {ws rows : List D} {z : Str} (G : Gvn m ws rows z) {i k f : Nat} {w : List Wt} (hi : i < z.length) (hw : w.Perm (canW ws rows z i k f)) {x : D} {t : List D} (hy : (srtW ws rows z i k)[f]? = some (x :: t)) (hx : x ∈ stW ws rows z i) {idx : Nat} (hidx : w[idx]? = some (x :: t, x, cx (stW ws rows z) lnW z.length (leL rows) i k f x)) :
    ((w.eraseIdx idx) ++ (((srtW ws rows z (i + lnW x) (kd x))[cx (stW ws rows z) lnW z.length (leL rows) i k f x + 1]?).map fun t => (x :: t, x, cx (stW ws rows z) lnW z.length (leL rows) i k f x + 1)).toList).Perm (canW ws rows z i k (f + 1)) := by
  obtain ⟨hc, R, p1, p2⟩ := canon_step G.ok hi hy hx
  have hil := (List.getElem?_eq_some_iff.mp hidx).1
  have hp := erase_perm hidx
  have hR : (w.eraseIdx idx).Perm R := (List.perm_cons _).mp (hp.symm.trans (hw.trans p1))
  have hcand : cand (stW ws rows z) lnW kd z.length (leL rows) i k (f + 1) x = ((srtW ws rows z (i + lnW x) (kd x))[cx (stW ws rows z) lnW z.length (leL rows) i k f x + 1]?).map fun t => (x :: t, x, cx (stW ws rows z) lnW z.length (leL rows) i k f x + 1) := by
    unfold cand
    rw [hc]
  rw [← hcand]
  exact (hR.append_right _).trans p2.symm
section
variable (s : Sto)
theorem at_step {Ed : EndsD} {o dk lo m i k r n : Nat} {ws rows : List D} {z : Str} {M : List Me} {e : Me} {x6 x7 x8 x9 x10 x11 : Option D} (G : Gvn m ws rows z) (A : OrAt o dk lo ws rows z M s) (hlo : lo ≤ i) (hn : z.length - i ≤ n) (hk : k < rows.length) (hr : r + (z.length - i) ≤ 1000000) (he : e ∈ M) (hei : e.i = i) (hek : e.k = k) (hf : e.f ≤ r) (hw : e.w ≠ [])
    (next : ∀ M' s' e' x6 x7 x8 x9 x10 x11, e' ∈ M' → e'.i = i → e'.k = k → e'.a = e.a → e'.b = e.b → e'.f = e.f + 1 → OrAt o dk lo ws rows z M' s' → OrFr dk i M M' s s' → Ed.nx [some (.ref o), some (inD i), some (inD k), some (inD r), some (.ref e.a), some (.ref e.b), x6, x7, x8, x9, x10, x11] s') :
    (fun sp_Order_split_ahead : SpD => (dSeq (dAsg (dCB minTF (dCons (dLc (iW (dVar 5)) (CT.g (.one 8)) dYes (dSl (dBin (oF idxF) (dVar 8) (dC (.int 0))) dNoP (dP (dC (.int 3)))) [8]) dNil)) (gN 6)) (dSeq (dAsg (dIndexP (dLc (iW (dVar 5)) (CT.g (.one 8)) dYes (dSl (dBin (oF idxF) (dVar 8) (dC (.int 0))) dNoP (dP (dC (.int 3)))) [8]) (dCons (dVar 6) dNil)) (gN 7)) (dSeq (dAsg (dMt fPop (dVar 5) (dCons (dVar 7) dNil)) (gTs [8, 9, 10])) (dSeq (dDrop (dMt fAppend (dVar 4) (dCons (dVar 8) dNil))) (dSeq (dAsg (dMeth noW "Order" "split_ahead" sp_Order_split_ahead [] (dVar 0) (dCons (dVar 1) (dCons (dVar 2) (dCons (dVar 9) (dCons (dBin (oF addF) (dVar 10) (dC (.int 1))) dNil))))) (gN 11)) (dIfS (dTest (dBin (oF isNotF) (dVar 11) (dC .non))) (dDrop (dMt fAppend (dVar 5) (dCons (dTup (dCons (dVar 11) (dCons (dVar 9) (dCons (dBin (oF addF) (dVar 10) (dC (.int 1))) dNil)))) dNil))) dNext))))))) (sp_Order_split_aheadN n) Ed [some (.ref o), some (inD i), some (inD k), some (inD r), some (.ref e.a), some (.ref e.b), x6, x7, x8, x9, x10, x11] s := by
  have hL := sizeLine_eq
  have hz := G.zl
  have K := A.ok e he (by omega)
  obtain ⟨fa, fb, fl, wt, en⟩ := K
  rw [hei, hek] at fa fl wt
  rw [hek] at fb
  rw [hei] at en
  have hil : i < z.length := by
    rcases Nat.lt_or_ge i z.length with h | h
    · exact h
    · rw [canon_end G h] at wt
      exact absurd wt.eq_nil hw
  have hcn : canW ws rows z i k e.f ≠ [] := fun h => by rw [h] at wt; exact hw wt.eq_nil
  have hfl : e.f < (srtW ws rows z i k).length := by
    rcases Nat.lt_or_ge e.f (srtW ws rows z i k).length with h | h
    · exact h
    · exact absurd ((canon_nil G.ok hil).mpr h) hcn
  have hy0 : (srtW ws rows z i k)[e.f]? = some (srtW ws rows z i k)[e.f] := List.getElem?_eq_getElem hfl
  obtain ⟨x, t, hyx, hx, hyin⟩ := canon_in G.ok hil hy0
  have hyin : ((srtW ws rows z i k)[e.f], x, cx (stW ws rows z) lnW z.length (leL rows) i k e.f x) ∈ canW ws rows z i k e.f := hyin
  have hleast := next_least G.ok hil hy0
  rw [hyx] at hy0 hyin hleast
  have hall : ∀ w ∈ e.w, w.1 ∈ all (stW ws rows z) lnW z.length i := fun w hw => (canon_all G.ok hil (wt.mem_iff.mp hw)).1
  have hyall : (x :: t) ∈ all (stW ws rows z) lnW z.length i := (srt_mem G.ok).mp (List.mem_of_getElem? hy0)
  have hwl : e.w.length ≤ 1001 := by
    have h0 := wt.length_eq
    have h1 : (canW ws rows z i k e.f).length ≤ (stW ws rows z i).length := List.length_filterMap_le _ _
    have hst : (stW ws rows z i).length ≤ 1001 := by
      unfold stW
      rw [if_pos hil]
      show (ws.filter _).length + 1 ≤ _
      have h1 := List.length_filter_le (standsAt z.cps.toList i) ws
      have h2 := G.B.wl
      have h3 := G.m
      omega
    omega
  -- the keys
  have hkeys : ∀ Q : List D → Sto → Prop, Q (e.w.map fun w => k3D rows k w.1) s → lcD (fun s' => s'[e.b]? = some (some (.lst (e.w.map (wtD rows k))))) (CT.g (.one 8)) dYes (dSl (dBin (oF idxF) (dVar 8) (dC (.int 0))) dNoP (dP (dC (.int 3)))) (wipeE [some (.ref o), some (inD i), some (inD k), some (inD r), some (.ref e.a), some (.ref e.b), x6, x7, x8, x9, x10, x11] [8]) (e.w.map (wtD rows k)) s Q := by
    intro Q q
    refine lcD_pure (fun _ => true) (fun d => match d with | .tup (.tup (a :: b :: c :: _) :: _) => .tup [a, b, c] | d => d) fb (fun d hd k1 k0 g1 g0 => ?_) ?_
    · obtain ⟨w, hw, rfl⟩ := List.mem_map.mp hd
      exact ⟨_, rfl, _, rfl, _, rfl, _, rfl, g1 rfl⟩
    · rw [List.filter_eq_self.mpr (fun _ _ => rfl), List.map_map]
      exact q
  have hkeys7 : ∀ (y6 : Option D) (Q : List D → Sto → Prop), Q (e.w.map fun w => k3D rows k w.1) s → lcD (fun s' => s'[e.b]? = some (some (.lst (e.w.map (wtD rows k))))) (CT.g (.one 8)) dYes (dSl (dBin (oF idxF) (dVar 8) (dC (.int 0))) dNoP (dP (dC (.int 3)))) (wipeE [some (.ref o), some (inD i), some (inD k), some (inD r), some (.ref e.a), some (.ref e.b), y6, x7, x8, x9, x10, x11] [8]) (e.w.map (wtD rows k)) s Q := by
    intro y6 Q q
    refine lcD_pure (fun _ => true) (fun d => match d with | .tup (.tup (a :: b :: c :: _) :: _) => .tup [a, b, c] | d => d) fb (fun d hd k1 k0 g1 g0 => ?_) ?_
    · obtain ⟨w, hw, rfl⟩ := List.mem_map.mp hd
      exact ⟨_, rfl, _, rfl, _, rfl, _, rfl, g1 rfl⟩
    · rw [List.filter_eq_self.mpr (fun _ _ => rfl), List.map_map]
      exact q
  have hok : MinOk (e.w.map fun w => k3D rows k w.1) := by
    have := keys_ok (rows := rows) (k := k) (ls := e.w.map (·.1)) fun l hl => by
      obtain ⟨w, hw, rfl⟩ := List.mem_map.mp hl
      exact all_wok G (hall w hw)
    rwa [List.map_map] at this
  have hmin : minTF s [.lst (e.w.map fun w => k3D rows k w.1)] = some (k3D rows k (x :: t)) := by
    have hmem : k3D rows k (x :: t) ∈ e.w.map fun w => k3D rows k w.1 := List.mem_map.mpr ⟨_, wt.mem_iff.mpr hyin, rfl⟩
    generalize hls : e.w.map (fun w => k3D rows k w.1) = ls at hok hmem
    cases ls with
    | nil => cases hmem
    | cons d ls =>
      rw [minT_f hok]
      congr 1
      have h1 := minT_mem ls d
      have h2 := minT_le ls d _ hmem
      rw [← hls] at h1
      obtain ⟨w, hw, hwe⟩ := List.mem_map.mp h1
      rw [← hwe] at h2 ⊢
      rw [py_k3, py_k3] at h2
      have h3 := hleast w (wt.mem_iff.mp hw)
      rw [G.ok.as i k w.1 (x :: t) (hall w hw) hyall h2 h3]
  obtain ⟨idx, hidx, hfirst⟩ := first_idx (l := e.w.map fun w => k3D rows k w.1) (x := k3D rows k (x :: t)) (List.mem_map.mpr ⟨_, wt.mem_iff.mpr hyin, rfl⟩)
  have hwi : e.w[idx]? = some (x :: t, x, cx (stW ws rows z) lnW z.length (leL rows) i k e.f x) := by
    rw [List.getElem?_map] at hidx
    obtain ⟨w, hw, hwe⟩ := Option.map_eq_some_iff.mp hidx
    have hm := List.mem_of_getElem? hw
    have h1 := k3_inj G (hall w hm) hyall hwe
    obtain ⟨t', e'⟩ := canon_det G hil (wt.mem_iff.mp hm)
    have h2 : w.2.1 = x := by
      have : w.1 = w.2.1 :: t' := by rw [e']
      rw [h1] at this
      exact (List.cons.inj this).1.symm
    rw [hw]
    have h3 : w.2.2 = cx (stW ws rows z) lnW z.length (leL rows) i k e.f w.2.1 := by rw [e']
    rw [h2] at h3
    rw [show w = (w.1, w.2.1, w.2.2) from rfl, h1, h2, h3]
  generalize hcc : cx (stW ws rows z) lnW z.length (leL rows) i k e.f x = cc at hwi hyin
  have hccf : cc ≤ e.f := by
    rw [← hcc]
    unfold cx
    refine Nat.le_trans (List.length_filter_le _ _) ?_
    rw [List.length_take]
    exact Nat.min_le_left _ _
  obtain ⟨hi1, l1, l2⟩ := st_ok G.B hx
  have hil2 := (List.getElem?_eq_some_iff.mp hwi).1
  refine ⟨_, rfl, _, _, isW_ref fb, le_line (by rw [List.length_map]; omega), hkeys _ ?_⟩
  refine ⟨_, hmin, ?_⟩
  refine ⟨_, rfl, _, _, isW_ref fb, le_line (by rw [List.length_map]; omega), hkeys7 _ _ ?_⟩
  refine ⟨_, rfl, hok.1, hok.2.2, _, rfl, _, idx, rfl, hidx, hfirst, ?_⟩
  have hpop : fPop (e.w.map (wtD rows k)) [inD idx] = some (wtD rows k (x :: t, x, cc), (e.w.eraseIdx idx).map (wtD rows k)) := by
    have := fpop (xs := e.w.map (wtD rows k)) (i := ((idx : Nat) : Int)) (y := wtD rows k (x :: t, x, cc)) (by omega) (by rw [Int.toNat_natCast, List.getElem?_map, hwi]; rfl) (by rw [List.length_map]; omega)
    rw [Int.toNat_natCast] at this
    rw [er_map] at this
    exact this
  obtain ⟨h1, h2, h3⟩ := A.ne
  obtain ⟨a1, a2, a3, a4, a5⟩ := h2 e he
  obtain ⟨t1, t2, t3, t4⟩ := A.lt e he
  refine ⟨_, rfl, e.b, _, rfl, fb, _, rfl, _, _, _, fb, hpop, _, rfl, rfl, ?_⟩
  have A1 := A.low (i := i) (by omega) he hei (j := e.b) (v := some (.lst ((e.w.eraseIdx idx).map (wtD rows k)))) (.inr rfl)
  have fa1 : (s.set e.b (some (MO.lst ((e.w.eraseIdx idx).map (wtD rows k)))))[e.a]? = some (some (.lst (((srtW ws rows z i k).take e.f).map (eD rows k)))) := (List.getElem?_set_ne (Ne.symm a5)).trans fa
  refine ⟨_, rfl, e.a, _, rfl, fa1, _, rfl, _, _, _, fa1, fapp (by rw [List.length_map, List.length_take]; omega), ?_⟩
  have A2 := A1.low (i := i) (Nat.le_refl _) he hei (j := e.a) (v := some (.lst (((srtW ws rows z i k).take e.f).map (eD rows k) ++ [eD rows k (x :: t)]))) (.inl rfl)
  have hs2 : ∀ j, j ≠ e.a → j ≠ e.b → ((s.set e.b (some (MO.lst ((e.w.eraseIdx idx).map (wtD rows k))))).set e.a (some (.lst (((srtW ws rows z i k).take e.f).map (eD rows k) ++ [eD rows k (x :: t)]))))[j]? = s[j]? := fun j n1 n2 => by
    rw [List.getElem?_set_ne (Ne.symm n1), List.getElem?_set_ne (Ne.symm n2)]
  have ga2 : ((s.set e.b (some (MO.lst ((e.w.eraseIdx idx).map (wtD rows k))))).set e.a (some (.lst (((srtW ws rows z i k).take e.f).map (eD rows k) ++ [eD rows k (x :: t)]))))[e.a]? = some (some (.lst (((srtW ws rows z i k).take e.f).map (eD rows k) ++ [eD rows k (x :: t)]))) := g_set (by rw [List.length_set]; exact t3)
  have gb2 : ((s.set e.b (some (MO.lst ((e.w.eraseIdx idx).map (wtD rows k))))).set e.a (some (.lst (((srtW ws rows z i k).take e.f).map (eD rows k) ++ [eD rows k (x :: t)]))))[e.b]? = some (some (MO.lst ((e.w.eraseIdx idx).map (wtD rows k)))) := by
    rw [List.getElem?_set_ne a5]; exact g_set t4
  have l2' : ((s.set e.b (some (MO.lst ((e.w.eraseIdx idx).map (wtD rows k))))).set e.a (some (.lst (((srtW ws rows z i k).take e.f).map (eD rows k) ++ [eD rows k (x :: t)])))).length = s.length := by rw [List.length_set, List.length_set]
  generalize (s.set e.b (some (MO.lst ((e.w.eraseIdx idx).map (wtD rows k))))).set e.a (some (.lst (((srtW ws rows z i k).take e.f).map (eD rows k) ++ [eD rows k (x :: t)]))) = s2 at A2 hs2 ga2 gb2 l2'
  have htake : ((srtW ws rows z i k).take (e.f + 1)).map (eD rows k) = ((srtW ws rows z i k).take e.f).map (eD rows k) ++ [eD rows k (x :: t)] := by
    rw [List.take_add_one, hy0, List.map_append]; rfl
  refine ⟨_, rfl, o, _, rfl, A2.ho, rfl, _, rfl, _, rfl, _, rfl, _, rfl, _, rfl, o, dk, i + 1, m, ws, rows, z, M, i, k, cc + 1, x, rfl, A2, G, Nat.le_refl _, ⟨hx, by omega⟩, hk, by omega, fun M3 s3 A3 F3 => ?_⟩
  have he3 := F3.low e he (by omega)
  obtain ⟨k3a, k3b⟩ := F3.keep A2 he (by omega)
  have ga3 := k3a.trans ga2
  have gb3 := k3b.trans gb2
  obtain ⟨u1, u2, u3, u4⟩ := A3.lt e he3
  have rest3 : ∀ c ∈ M3, c ≠ e → lo ≤ c.i → c.i < i + 1 → MeOk ws rows z s3 c := fun c hc hne hl hc1 => by
    have hcM := F3.new c hc hc1
    obtain ⟨b1, b2, b3, b4⟩ := h3 c hcM e he hne
    obtain ⟨p1, p2⟩ := F3.keep A2 hcM hc1
    exact (A.ok c hcM hl).at_ (p1.trans (hs2 _ b1 b2)) (p2.trans (hs2 _ b3 b4))
  have hnext := wt_next G hil wt hy0 hx (by rw [hcc]; exact hwi)
  rw [hcc] at hnext
  cases hsu : (srtW ws rows z (i + lnW x) (kd x))[cc + 1]? with
  | none =>
    rw [hsu] at hnext
    refine ⟨_, rfl, _, rfl, _, rfl, ifF ?_⟩
    have hep : OrAt o dk lo ws rows z (rep e ⟨i, k, e.a, e.b, e.f + 1, e.w.eraseIdx idx⟩ M3) s3 := by
      refine OrAt.put (by rw [hei]; exact A3) he3 hei.symm hek.symm rfl rfl ⟨?_, gb3, hfl, ?_, fun h => absurd h (by show ¬ z.length ≤ i; omega)⟩ fun c hc hne hl h => rest3 c hc hne hl (by omega)
      · show s3[e.a]? = some (some (.lst (((srtW ws rows z i k).take (e.f + 1)).map (eD rows k))))
        rw [htake]; exact ga3
      · simpa using hnext
    exact next _ _ ⟨i, k, e.a, e.b, e.f + 1, e.w.eraseIdx idx⟩ _ _ _ _ _ _ (rep_self he3) rfl rfl rfl rfl rfl hep (OrFr.put A he hei F3 A3.nk l2' hs2 rfl (fun _ _ _ => rfl) hei.symm rfl rfl)
  | some t' =>
    rw [hsu] at hnext
    refine ⟨_, rfl, _, rfl, _, rfl, ifT ?_⟩
    refine ⟨_, rfl, e.b, _, rfl, gb3, _, rfl, _, rfl, _, rfl, _, rfl, Dl.ll, _, _, _, gb3, fapp ?_, ?_⟩
    · rw [List.length_map]
      have := List.length_eraseIdx_le e.w idx
      omega
    have hw' : (e.w.eraseIdx idx).map (wtD rows k) ++ [.tup [oeD rows k ((some t').map (x :: ·)), x, .int (((cc : Nat) : Int) + 1)]] = (e.w.eraseIdx idx ++ [(x :: t', x, cc + 1)]).map (wtD rows k) := by
      rw [List.map_append]; rfl
    have A4 := A3.low (i := i) (Nat.le_refl _) he3 hei (j := e.b) (v := some (.lst ((e.w.eraseIdx idx ++ [(x :: t', x, cc + 1)]).map (wtD rows k)))) (.inr rfl)
    have ga4 : (s3.set e.b (some (MO.lst ((e.w.eraseIdx idx ++ [(x :: t', x, cc + 1)]).map (wtD rows k)))))[e.a]? = _ := (List.getElem?_set_ne (Ne.symm a5)).trans ga3
    have gb4 : (s3.set e.b (some (MO.lst ((e.w.eraseIdx idx ++ [(x :: t', x, cc + 1)]).map (wtD rows k)))))[e.b]? = _ := g_set u4
    have hep : OrAt o dk lo ws rows z (rep e ⟨i, k, e.a, e.b, e.f + 1, e.w.eraseIdx idx ++ [(x :: t', x, cc + 1)]⟩ M3) (s3.set e.b (some (MO.lst ((e.w.eraseIdx idx ++ [(x :: t', x, cc + 1)]).map (wtD rows k))))) := by
      refine OrAt.put (by rw [hei]; exact A4) he3 hei.symm hek.symm rfl rfl ⟨?_, gb4, hfl, ?_, fun h => absurd h (by show ¬ z.length ≤ i; omega)⟩ fun c hc hne hl h => ?_
      · show (s3.set e.b _)[e.a]? = some (some (.lst (((srtW ws rows z i k).take (e.f + 1)).map (eD rows k))))
        rw [htake]; exact ga4
      · simpa using hnext
      · have hcM := F3.new c hc (by omega)
        obtain ⟨b1, b2, b3, b4⟩ := h3 c hcM e he hne
        exact (rest3 c hc hne hl (by omega)).at_ (List.getElem?_set_ne (Ne.symm b2)) (List.getElem?_set_ne (Ne.symm b4))
    have := next _ _ ⟨i, k, e.a, e.b, e.f + 1, e.w.eraseIdx idx ++ [(x :: t', x, cc + 1)]⟩ (some (k3D rows k (x :: t))) (some (inD idx)) (some (eD rows k (x :: t))) (some x) (some (inD cc)) (some (eD rows k (x :: t'))) (rep_self he3) rfl rfl rfl rfl rfl hep (OrFr.put A he hei F3 A3.nk l2' hs2 List.length_set (fun j _ n2 => List.getElem?_set_ne (Ne.symm n2)) hei.symm rfl rfl)
    rw [← hw'] at this
    exact this
end
end Od
set_option Elab.async false
set_option linter.all false
set_option autoImplicit false
set_option maxRecDepth 100000
set_option maxHeartbeats 600000
namespace Od
open PySem PySem.Spec PyProof.Rows L2 Dl Bk
open Fb (pairD rdOf standsAt rawD stRow rowAt stands_len jn kd cs costF Part cps_len sp_kind_behind sp_standing part_shape row_at)
open Fa (ifD ifB ifT ifF fapp leP leP_trans leP_total leP_toks)
section
variable (ds : List D) (s : Sto) (Q : D → Sto → Prop) (E : XD)
theorem srt_few {m : Nat} {ws rows : List D} {z : Str} (G : Gvn m ws rows z) {i k r : Nat} (hr : r < (srtW ws rows z i k).length) : ∃ l, (srtW ws rows z i k)[r]? = some l := ⟨_, List.getElem?_eq_getElem hr⟩
theorem at_ret {o i k r : Nat} {a b : Nat} {x6 x7 x8 x9 x10 x11 : Option D} {xs : List D} {y : D} (ha : s[a]? = some (some (.lst xs))) (hy : (r < xs.length ∧ xs[r]? = some y) ∨ (xs.length ≤ r ∧ y = .non)) (q : Q y s) :
    (dRet (dIf (dTest (dBin (oF ltF) (dVar 3) (dCB lenF (dCons (dVar 4) dNil)))) (dBin (oF idxF) (dVar 4) (dVar 3)) (dC .non))) (endsOf Q) [some (.ref o), some (inD i), some (inD k), some (inD r), some (.ref a), some (.ref b), x6, x7, x8, x9, x10, x11] s := by
  refine ⟨_, rfl, _, rfl, _, len_r ha, _, rfl, _, rfl, ?_⟩
  refine ifD (fun h => ?_) fun h => ?_
  · have h : ((r : Nat) : Int) < ((xs.length : Nat) : Int) := h
    rcases hy with ⟨h1, h2⟩ | ⟨h1, rfl⟩
    · refine ⟨_, rfl, _, rfl, _, ?_, q⟩
      rw [idx_r ha, atI_in (by omega) (by omega)]
      rw [Int.toNat_natCast]
      exact h2
    · omega
  · have h : ¬ ((r : Nat) : Int) < ((xs.length : Nat) : Int) := h
    rcases hy with ⟨h1, h2⟩ | ⟨h1, rfl⟩
    · omega
    · exact q
theorem pf_Order_split_at (n : Nat) (h : sp_Order_split_atN (n + 1) ds s Q E) : b_Order_split_at (sp_Order_split_begunN n) (sp_Order_split_aheadN n) (endsOf Q) (envD ["self", "place", "kind", "rank", "found", "waiting", "least", "index", "entry", "word", "at", "more"] ds) s := by
  obtain ⟨o, dk, lo, m, ws, rows, z, M, i, k, r, rfl, A, G, ⟨hlo, hiz, hn⟩, hk, hr, q⟩ := h
  refine ⟨_, rfl, o, _, rfl, A.ho, rfl, _, rfl, _, rfl, o, dk, lo, m, ws, rows, z, M, i, k, rfl, A, G, ⟨hlo, hiz, hn⟩, hk, fun M1 s1 e A1 F1 he hei hek => ?_⟩
  refine ⟨_, rfl, rfl, ?_⟩
  refine ⟨fun f env s' => ∃ (M' : List Me) (e' : Me) (x6 x7 x8 x9 x10 x11 : Option D), env = [some (.ref o), some (inD i), some (inD k), some (inD r), some (.ref e'.a), some (.ref e'.b), x6, x7, x8, x9, x10, x11] ∧ f + e'.f = r + 1 + (srtW ws rows z i k).length ∧ OrAt o dk lo ws rows z M' s' ∧ OrFr dk i M M' s s' ∧ e' ∈ M' ∧ e'.i = i ∧ e'.k = k, ⟨r + 1 + (srtW ws rows z i k).length - e.f, M1, e, none, none, none, none, none, none, rfl, ?_, A1, F1, he, hei, hek⟩, ?_⟩
  · have := (A1.ok e he (by omega)).fl
    rw [hei, hek] at this
    omega
  rintro f env s2 ⟨M2, e2, x6, x7, x8, x9, x10, x11, rfl, hf, A2, F2, he2, hei2, hek2⟩
  obtain ⟨fa, fb, fl, wt, en⟩ := A2.ok e2 he2 (by omega)
  rw [hei2, hek2] at fa fl wt
  rw [hek2] at fb
  rw [hei2] at en
  have hlen : (((srtW ws rows z i k).take e2.f).map (eD rows k)).length = e2.f := by
    rw [List.length_map, List.length_take]; omega
  refine ⟨_, rfl, _, len_r fa, _, rfl, _, rfl, _, rfl, ?_⟩
  rw [hlen]
  refine ifD (fun hfr => ?_) fun hfr => ?_
  · have hfr : ((e2.f : Nat) : Int) ≤ ((r : Nat) : Int) := hfr
    have hfr : e2.f ≤ r := by omega
    refine ⟨_, rfl, Dl.ll, _, ne_nilR fb, _, rfl, ?_⟩
    by_cases hw : e2.w = []
    · rw [hw]
      refine ifF ?_
      refine at_ret (xs := ((srtW ws rows z i k).take e2.f).map (eD rows k)) _ _ fa (.inr ⟨by rw [hlen]; exact hfr, rfl⟩) ?_
      have : (srtW ws rows z i k)[r]? = none := by
        rw [List.getElem?_eq_none_iff]
        rcases Nat.lt_or_ge i z.length with hi | hi
        · rw [hw] at wt
          have h1 : (srtW ws rows z i k).length ≤ e2.f := (canon_nil G.ok hi).mp wt.symm.eq_nil
          omega
        · have h1 := en hi
          have h2 := srt_end (W := stW ws rows z) (ln := lnW) (le := leL rows) (k := k) hi
          show (srt (stW ws rows z) lnW z.length (leL rows) i k).length ≤ r
          rw [h2]
          show 1 ≤ r
          omega
      have q := q M2 s2 A2 F2
      rw [this] at q
      exact q
    · rw [show (!decide (e2.w.map (wtD rows k) = [])) = true by rw [decide_eq_false (fun h => hw (List.map_eq_nil_iff.mp h))]; rfl]
      refine ifT ?_
      refine ⟨fun e' s'' => ∃ f', f' < f ∧ ∃ (M' : List Me) (e3 : Me) (x6 x7 x8 x9 x10 x11 : Option D), e' = [some (.ref o), some (inD i), some (inD k), some (inD r), some (.ref e3.a), some (.ref e3.b), x6, x7, x8, x9, x10, x11] ∧ f' + e3.f = r + 1 + (srtW ws rows z i k).length ∧ OrAt o dk lo ws rows z M' s'' ∧ OrFr dk i M M' s s'' ∧ e3 ∈ M' ∧ e3.i = i ∧ e3.k = k, fun _ _ h => h, ?_⟩
      refine at_step (n := n) (r := r) s2 G A2 hlo hn hk hr he2 hei2 hek2 hfr hw fun M3 s3 e3 y6 y7 y8 y9 y10 y11 he3 hi3 hk3 ha3 hb3 hf3 A3 F3 => ?_
      refine ⟨f - 1, by omega, M3, e3, y6, y7, y8, y9, y10, y11, ?_, by omega, A3, F2.trans F3, he3, hi3, hk3⟩
      rw [ha3, hb3]
  · have hfr : ¬ ((e2.f : Nat) : Int) ≤ ((r : Nat) : Int) := hfr
    have hfr : ¬ e2.f ≤ r := by omega
    obtain ⟨l, hl⟩ := srt_few G (i := i) (k := k) (r := r) (by omega)
    refine at_ret (xs := ((srtW ws rows z i k).take e2.f).map (eD rows k)) (y := eD rows k l) _ _ fa (.inl ⟨by rw [hlen]; omega, ?_⟩) ?_
    · rw [List.getElem?_map, List.getElem?_take, if_pos (by omega), hl]; rfl
    · have q := q M2 s2 A2 F2
      rw [hl] at q
      exact q
theorem pf_cheapest (h : sp_cheapest ds s Q E) : b_cheapest (endsOf Q) (envD ["book", "reading", "behind"] ds) s := by
  obtain ⟨m, ws, rows, z, b, k, rfl, G, hz, hk, hb, q⟩ := h
  have hr := G.B.rl
  have hm := G.m
  have hzl := G.zl
  refine ⟨_, rfl, _, rfl, _, _, rfl, szB_mono (by decide) _ (G.B.sz G.m), G.B.isBk, sz_str.mpr (by show _ ≤ 1000000; omega), ?_, ?_⟩
  · show (sgnIn az z && (decide (1 ≤ (z.length : Int)) && decide ((z.length : Int) ≤ 40))) = true
    rw [G.zs, decide_eq_true (by omega), decide_eq_true (by omega)]; rfl
  refine ⟨_, rfl, _, rfl, s, m, ws, rows, z, rfl, rfl, G, fun s1 A l1 b1 => ⟨rfl, ?_⟩⟩
  refine ⟨s.length, _, rfl, A.ho, rfl, _, rfl, _, rfl, _, rows, b, k, rfl, hk, hb, by omega, ?_⟩
  refine ⟨s.length, s.length + 2, 0, m, ws, rows, z, [], 0, k, 0, rfl, A, G, ⟨Nat.le_refl _, Nat.zero_le _, (show z.length - 0 ≤ 41 by omega)⟩, hk, by omega, fun M' s2 A2 F2 => ?_⟩
  obtain ⟨t, ht⟩ := hd_some G (i := 0) (k := k)
  rw [ht]
  have q := q s2 (by have := F2.len; omega) fun j hj => (F2.at_ j (by omega) (by omega) fun e he => nomatch he).trans (b1 j hj)
  unfold cheapL at q
  rw [ht] at q
  exact ⟨_, rfl, _, rfl, q⟩
end
end Od
set_option Elab.async false
set_option linter.all false
set_option autoImplicit false
set_option maxRecDepth 100000
set_option maxHeartbeats 600000
namespace Od
open PySem PySem.Spec PyProof.Rows L2 Dl Bk
open Fb (pairD rdOf standsAt rawD stRow rowAt stands_len jn kd cs costF Part cps_len part_shape rF nF rF_end rF_st aF isRaw isPart partsTo)
open Fa (leP leP_trans leP_total leP_toks)
/-- what is left of a text behind so many signs -/
def drS (z : Str) (p : Nat) : Str := ⟨(z.cps.toList.drop p).toArray⟩
theorem drS_cps (z : Str) (p : Nat) : (drS z p).cps.toList = z.cps.toList.drop p := rfl
theorem drS_len (z : Str) (p : Nat) : (drS z p).length = z.length - p := by
  rw [← cps_len, drS_cps, List.length_drop, cps_len]
theorem str_eq {a b : Str} (h : a.cps.toList = b.cps.toList) : a = b := PySem.W.str_of_cps h
theorem drS_drS (z : Str) (p q : Nat) : drS (drS z p) q = drS z (p + q) := str_eq (by rw [drS_cps, drS_cps, drS_cps, List.drop_drop])
theorem drS_zero (z : Str) : drS z 0 = z := str_eq (by rw [drS_cps, List.drop_zero])
theorem drS_all (z : Str) : drS z z.length = "" := str_eq (by rw [drS_cps, List.drop_eq_nil_of_le (by rw [cps_len]; exact Nat.le_refl _)]; rfl)
theorem drS_sgn {z : Str} (h : sgnIn az z = true) (p : Nat) : sgnIn az (drS z p) = true := by
  refine List.all_eq_true.mpr fun c hc => ?_
  rw [drS_cps] at hc
  exact List.all_eq_true.mp h c (List.mem_of_mem_drop hc)
theorem stands_drop (t : List Nat) (p i : Nat) (w : D) : standsAt (t.drop p) i w = standsAt t (p + i) w := by
  unfold standsAt
  rw [List.take_drop, List.drop_drop, Nat.add_assoc]
theorem st_drop {ws rows : List D} {z : Str} {p : Nat} (hp : p ≤ z.length) (i : Nat) : stW ws rows (drS z p) i = stW ws rows z (p + i) := by
  unfold stW
  rw [drS_len]
  by_cases h : i < z.length - p
  · rw [if_pos h, if_pos (by omega)]
    show rawD ((drS z p).cps.toList.getD i 0) _ :: ws.filter (standsAt (drS z p).cps.toList i) = rawD (z.cps.toList.getD (p + i) 0) _ :: ws.filter (standsAt z.cps.toList (p + i))
    rw [drS_cps, List.getD_eq_getElem?_getD, List.getElem?_drop, ← List.getD_eq_getElem?_getD]
    congr 1
    exact List.filter_congr fun x _ => stands_drop _ _ _ _
  · rw [if_neg h, if_neg (by omega)]
theorem alls_drop {α : Type} {W W' : Nat → List α} {ln : α → Nat} {n p : Nat} (hp : p ≤ n) (h : ∀ i, W' i = W (p + i)) : ∀ f i, alls W' ln (n - p) f i = alls W ln n f (p + i)
  | 0, i => by
    unfold alls
    by_cases hi : n - p ≤ i
    · rw [if_pos hi, if_pos (by omega)]
    · rw [if_neg hi, if_neg (by omega)]
  | f + 1, i => by
    unfold alls
    by_cases hi : n - p ≤ i
    · rw [if_pos hi, if_pos (by omega)]
    · rw [if_neg hi, if_neg (by omega)]
      show (W' i).flatMap (fun x => (alls W' ln (n - p) f (i + ln x)).map (x :: ·)) = (W (p + i)).flatMap fun x => (alls W ln n f (p + i + ln x)).map (x :: ·)
      rw [h]
      congr 1
      funext x
      rw [alls_drop hp h f, Nat.add_assoc]
theorem srt_drop {ws rows : List D} {z : Str} {p : Nat} (hp : p ≤ z.length) (i k : Nat) : srtW ws rows (drS z p) i k = srtW ws rows z (p + i) k := by
  show (alls (stW ws rows (drS z p)) lnW (drS z p).length ((drS z p).length - i) i).mergeSort (leL rows k) = (alls (stW ws rows z) lnW z.length (z.length - (p + i)) (p + i)).mergeSort (leL rows k)
  rw [drS_len, alls_drop hp (st_drop hp), Nat.sub_sub]
/-- the first of what is left at a place -/
noncomputable def fstW (ws rows : List D) (z : Str) (i k : Nat) : List D := ((srtW ws rows z i k)[0]?).getD []
theorem cheap_drop {ws rows : List D} {z : Str} {p : Nat} (hp : p ≤ z.length) (k : Nat) : cheapL ws rows (drS z p) k = fstW ws rows z p k := by
  unfold cheapL fstW
  rw [srt_drop hp, Nat.add_zero]
section
variable {m : Nat} {ws rows : List D} {z : Str}
theorem hd_at (G : Gvn m ws rows z) (i k : Nat) : (srtW ws rows z i k)[0]? = some (fstW ws rows z i k) := by
  obtain ⟨t, ht⟩ := hd_some G (i := i) (k := k)
  unfold fstW
  rw [ht]; rfl
theorem hd_all (G : Gvn m ws rows z) (i k : Nat) : fstW ws rows z i k ∈ all (stW ws rows z) lnW z.length i := (srt_mem G.ok).mp (List.mem_of_getElem? (hd_at G i k))
theorem hd_least (G : Gvn m ws rows z) {i k : Nat} {l : List D} (hl : l ∈ all (stW ws rows z) lnW z.length i) : leL rows k (fstW ws rows z i k) l = true := by
  have hm := (srt_mem G.ok (k := k)).mpr hl
  have h0 := hd_at G i k
  have hp := srt_pair G.ok i k
  change l ∈ srtW ws rows z i k at hm
  change (srtW ws rows z i k).Pairwise _ at hp
  generalize srtW ws rows z i k = L at hm h0 hp
  cases L with
  | nil => cases hm
  | cons a L =>
    rw [List.getElem?_cons_zero, Option.some.injEq] at h0
    rw [← h0]
    rcases List.mem_cons.mp hm with rfl | hm
    · have := G.ok.tot k l l
      rwa [Bool.or_self] at this
    · exact (List.pairwise_cons.mp hp).1 l hm
theorem hd_end (G : Gvn m ws rows z) {i : Nat} (h : z.length ≤ i) (k : Nat) : fstW ws rows z i k = [] := by
  have := srt_end (W := stW ws rows z) (ln := lnW) (le := leL rows) (k := k) h
  unfold fstW
  show ((srt (stW ws rows z) lnW z.length (leL rows) i k)[0]?).getD [] = []
  rw [this]; rfl
theorem hd_cons (G : Gvn m ws rows z) {i : Nat} (h : i < z.length) (k : Nat) : ∃ x, x ∈ stW ws rows z i ∧ fstW ws rows z i k = x :: fstW ws rows z (i + lnW x) (kd x) := by
  obtain ⟨x, t, e, hx, _, ht⟩ := next_mem G.ok h (hd_at G i k)
  have h0 : cx (stW ws rows z) lnW z.length (leL rows) i k 0 x = 0 := by unfold cx; rw [List.take_zero]; rfl
  rw [h0] at ht
  refine ⟨x, hx, ?_⟩
  rw [e]
  congr 1
  have := (hd_at G (i + lnW x) (kd x)).symm.trans ht
  exact (Option.some.inj this).symm
theorem all_st (G : Gvn m ws rows z) : ∀ {l : List D} {i : Nat}, l ∈ all (stW ws rows z) lnW z.length i → (∀ x ∈ l, Part ws ((rows.length : Int) - 1) x) ∧ (l.map rdOf).flatten = z.cps.toList.drop i
  | [], i, h => by
    by_cases hi : i < z.length
    · obtain ⟨x, t, e, _⟩ := (mem_all G.ok hi).mp h
      cases e
    · exact ⟨(fun _ h => nomatch h), by rw [List.drop_eq_nil_of_le (by rw [cps_len]; omega)]; rfl⟩
  | y :: l, i, h => by
    by_cases hi : i < z.length
    · obtain ⟨x, t, e, hx, ht⟩ := (mem_all G.ok hi).mp h
      obtain ⟨rfl, rfl⟩ := List.cons.inj e
      obtain ⟨h1, h2⟩ := all_st G ht
      refine ⟨fun u hu => ?_, ?_⟩
      · rcases List.mem_cons.mp hu with rfl | hu
        · exact st_part G hx
        · exact h1 u hu
      · rw [List.map_cons, List.flatten_cons, h2]
        obtain ⟨_, hs⟩ := st_mem G.B hx
        show rdOf y ++ z.cps.toList.drop (i + (rdOf y).length) = _
        have hl : i < z.cps.toList.length := by rw [cps_len]; exact hi
        rcases hs with rfl | ⟨_, hs⟩
        · show [z.cps.toList.getD i 0] ++ z.cps.toList.drop (i + 1) = _
          rw [List.getD_eq_getElem?_getD, List.getElem?_eq_getElem hl, List.drop_eq_getElem_cons hl]; rfl
        · have hs := of_decide_eq_true hs
          rw [← List.drop_drop]
          rw [List.drop_take, Nat.add_sub_cancel_left] at hs
          conv => lhs; lhs; rw [← hs]
          rw [List.take_append_drop]
    · rw [all_end (by omega)] at h
      cases List.mem_singleton.mp h
theorem le_cost {k : Nat} {a b : List D} (h : leL rows k a b = true) : costF rows k a ≤ costF rows k b := by
  rcases Int.lt_or_le (costF rows k b) (costF rows k a) with hlt | hle
  · exfalso
    have : PySem.W.dataLt (keyP rows k b) (keyP rows k a) = true := by
      show Fa.lexI (PySem.W.keyToks _) (PySem.W.keyToks _) = true
      rw [toks_key, toks_key]
      simp only [List.cons_append, List.nil_append]
      rw [Fa.lexJ_self, Fa.lexJ_diff (fun e => by injection e with e; omega)]
      exact decide_eq_true hlt
    unfold leL leP at h
    rw [this] at h
    cases h
  · exact hle
theorem stW_st {i : Nat} (hi : i < z.length) : stW ws rows z i = stRow ws ((rows.length : Int) - 1) z.cps.toList i := by
  unfold stW; rw [if_pos hi]
theorem rF_le (G : Gvn m ws rows z) : ∀ {l : List D} {i k : Nat}, i ≤ z.length → l ∈ all (stW ws rows z) lnW z.length i → rF ws rows z i k ≤ costF rows k l
  | [], i, k, hi, h => by
    by_cases hi2 : i < z.length
    · obtain ⟨x, t, e, _⟩ := (mem_all G.ok hi2).mp h
      cases e
    · have : i = z.length := by omega
      rw [this, (rF_end G.B k).1]
      exact Int.le_refl _
  | y :: l, i, k, hi, h => by
    by_cases hi2 : i < z.length
    · obtain ⟨x, t, e, hx, ht⟩ := (mem_all G.ok hi2).mp h
      obtain ⟨rfl, rfl⟩ := List.cons.inj e
      obtain ⟨_, l1, l2⟩ := st_ok G.B hx
      have ih := rF_le G (k := kd y) l2 ht
      rw [(rF_st G.B hi2 k).1]
      rw [stW_st hi2] at hx
      have hm : aF ws rows z i k y ∈ (stRow ws ((rows.length : Int) - 1) z.cps.toList i).map (aF ws rows z i k) := List.mem_map.mpr ⟨y, hx, rfl⟩
      have := (minI_mem (List.ne_nil_of_mem hm)).2 _ hm
      have e1 : aF ws rows z i k y = jn rows k (kd y) + (cs y + rF ws rows z (i + lnW y) (kd y)) := rfl
      have e2 : costF rows k (y :: l) = jn rows k (kd y) + cs y + costF rows (kd y) l := rfl
      omega
    · rw [all_end (by omega)] at h
      cases List.mem_singleton.mp h
theorem hd_cost (G : Gvn m ws rows z) : ∀ (d i k : Nat), z.length - i ≤ d → i ≤ z.length → costF rows k (fstW ws rows z i k) = rF ws rows z i k := by
  intro d
  induction d with
  | zero =>
    intro i k hd hi
    have : i = z.length := by omega
    rw [hd_end G (by omega), this, (rF_end G.B k).1]
    rfl
  | succ d ih =>
    intro i k hd hi
    by_cases hi2 : i < z.length
    · refine Int.le_antisymm ?_ (rF_le G hi (hd_all G i k))
      have hne : (stRow ws ((rows.length : Int) - 1) z.cps.toList i).map (aF ws rows z i k) ≠ [] := by
        show (rawD _ _ :: _).map _ ≠ []
        simp
      obtain ⟨x, hx, e⟩ := List.mem_map.mp (minI_mem hne).1
      rw [← (rF_st G.B hi2 k).1] at e
      rw [← stW_st hi2] at hx
      obtain ⟨_, l1, l2⟩ := st_ok G.B hx
      have h1 := le_cost (hd_least G (k := k) ((mem_all G.ok hi2).mpr ⟨x, _, rfl, hx, hd_all G (i + lnW x) (kd x)⟩))
      have h2 := ih (i + lnW x) (kd x) (by omega) l2
      have e1 : aF ws rows z i k x = jn rows k (kd x) + (cs x + rF ws rows z (i + lnW x) (kd x)) := rfl
      have e2 : costF rows k (x :: fstW ws rows z (i + lnW x) (kd x)) = jn rows k (kd x) + cs x + costF rows (kd x) (fstW ws rows z (i + lnW x) (kd x)) := rfl
      omega
    · have : i = z.length := by omega
      rw [hd_end G (by omega), this, (rF_end G.B k).1]
      rfl
theorem part_ok (G : Gvn m ws rows z) {x : D} (h : Part ws ((rows.length : Int) - 1) x) : isPart ws ((rows.length : Int) - 1) x = true := by
  unfold isPart
  rcases h with h | ⟨c, hc, rfl⟩
  · obtain ⟨r, w, co, k, rfl, ok⟩ := G.B.ww x h
    have := (Fb.word_in (ws := ws) (a := r) (b := w) (c := co) (d := k) G.B.ww).2.mpr h
    rw [this, (G.B.ww _ h).wd, Bool.and_self, Bool.or_true]
  · have hs : sgnIn az ⟨#[c]⟩ = true := List.all_eq_true.mpr fun d hd => by
      have hd : d ∈ [c] := hd
      rw [List.mem_singleton.mp hd]; exact decide_eq_true hc
    have : isRaw ((rows.length : Int) - 1) (rawD c ((rows.length : Int) - 1)) = true := by
      show (sgnIn az ⟨#[c]⟩ && (decide (((1 : Nat) : Int) = 1) && (sgnIn az ⟨#[c]⟩ && ((_ == _) && ((_ == _) && (_ == _)))))) = true
      rw [hs]
      simp
    rw [this]; rfl
theorem fst_split (G : Gvn m ws rows z) (h0 : 1 ≤ z.length) (k : Nat) : partsTo ws ((rows.length : Int) - 1) z (.lst (cheapL ws rows z k)) = true := by
  have e : cheapL ws rows z k = fstW ws rows z 0 k := rfl
  rw [e]
  obtain ⟨h1, h2⟩ := all_st G (hd_all G 0 k)
  obtain ⟨x, hx, e⟩ := hd_cons G (i := 0) h0 k
  show ((!decide (fstW ws rows z 0 k = [])) && ((fstW ws rows z 0 k).all (isPart ws _) && decide (((fstW ws rows z 0 k).map rdOf).flatten = z.cps.toList))) = true
  rw [decide_eq_false (by rw [e]; exact List.cons_ne_nil _ _), decide_eq_true (by rw [h2, List.drop_zero]), List.all_eq_true.mpr fun x hx => part_ok G (h1 x hx)]
  rfl
end
end Od
set_option Elab.async false
set_option linter.all false
set_option autoImplicit false
set_option maxRecDepth 100000
set_option maxHeartbeats 4000000
namespace Qk11
open PySem PySem.Spec PyProof.Rows L2 Dl Bk Fb
open Od
open Fa (strL ifD ifB fapp strL_length strL_cps)
structure Gv (m : Nat) (ws rows : List D) (z : Str) : Prop where
  b : BookOk m ws rows
  m : m ≤ 1000
  s : sgnIn az z = true
  a : 1 ≤ z.length
  l : z.length ≤ 40
/-- a dict of the store: kinds to costs and ways -/
def conv (p : Nat × Int × Int) : Key × D := (.inl ((p.1 : Nat) : Int), .tup [.int p.2.1, .int p.2.2])
def dvOf (es : Sr.Es) : DV := .k (es.map conv)
def dkOf (es : Sr.Es) : Option MO := some (dvOf es).mo
structure EsOk (e : Nat) (es : Sr.Es) : Prop where
  nd : (es.map (·.1)).Nodup
  kd : ∀ p ∈ es, p.1 ≤ e
structure Front (ws rows : List D) (z : Str) (ES : List Sr.Es) : Prop where
  len : ES.length = z.length + 1
  ok : ∀ es ∈ ES, EsOk (rows.length - 1) es
  fin : ∃ es, ES[z.length]? = some es ∧ ∀ b, Sr.BOk (Wf ws rows z) (jn rows) (rows.length - 1) z.length b → Sr.tot b z.length es = b 0 (rows.length - 1)
def sp__law_front : SpD := fun ds s Q _ => ∃ (m : Nat) (ws rows : List D) (z : Str), ds = [.tup [.lst ws, .lst rows], .str z] ∧ Gv m ws rows z ∧ ∀ ES, Front ws rows z ES → Q (.lst ((List.range (z.length + 1)).map fun q => .ref (s.length + q))) (s ++ ES.map dkOf)
theorem mono__law_front : MonoSp sp__law_front := fun _ _ _ _ _ _ f _ ⟨m, ws, rows, z, h1, h2, h⟩ => ⟨m, ws, rows, z, h1, h2, fun ES a => f _ _ (h ES a)⟩
theorem len__law_front : ∀ ds s Q E, sp__law_front ds s Q E → ds.length = ["book", "reading"].length := fun _ _ _ _ ⟨_, _, _, _, h, _⟩ => by rw [h]; rfl
def sp__law_least : SpD := fun ds s Q _ => ∃ (m : Nat) (ws rows : List D) (z : Str), ds = [.tup [.lst ws, .lst rows], .str z] ∧ Gv m ws rows z ∧ ∀ c u, (∀ b, Sr.BOk (Wf ws rows z) (jn rows) (rows.length - 1) z.length b → b 0 (rows.length - 1) = some c) → Q (.tup [.int c.1, .int c.2]) (s ++ u)
theorem mono__law_least : MonoSp sp__law_least := fun _ _ _ _ _ _ f _ ⟨m, ws, rows, z, h1, h2, h⟩ => ⟨m, ws, rows, z, h1, h2, fun c u a => f _ _ (h c u a)⟩
theorem len__law_least : ∀ ds s Q E, sp__law_least ds s Q E → ds.length = ["book", "reading"].length := fun _ _ _ _ ⟨_, _, _, _, h, _⟩ => by rw [h]; rfl
def Gv.gvn {m : Nat} {ws rows : List D} {z : Str} (G : Gv m ws rows z) : Gvn m ws rows z := ⟨G.b, G.m, G.s, G.l⟩
def sp_is_split : SpD := fun ds s Q _ => ∃ (m : Nat) (ws rows : List D) (z : Str) (k : Nat), ds = [.tup [.lst ws, .lst rows], .str z, .lst (cheapL ws rows z k)] ∧ Gv m ws rows z ∧ k < rows.length ∧ Q (.bl true) s
theorem mono_is_split : MonoSp sp_is_split := fun _ _ _ _ _ _ f _ ⟨m, ws, rows, z, k, h1, h2, h3, h⟩ => ⟨m, ws, rows, z, k, h1, h2, h3, f _ _ h⟩
theorem len_is_split : ∀ ds s Q E, sp_is_split ds s Q E → ds.length = ["book", "reading", "thing"].length := fun _ _ _ _ ⟨_, _, _, _, _, h, _⟩ => by rw [h]; rfl
/-- what a split is put in order by, as the law tells it -/
def kyD (rows : List D) (k : Nat) (l : List D) : D := .tup [.int (costF rows k l), inD l.length, .lst (l.map pairD)]
def sp__law_key : SpD := fun ds s Q _ => ∃ (m : Nat) (ws rows l : List D) (k : Nat), ds = [.tup [.lst ws, .lst rows], .lst l, inD k] ∧ BookOk m ws rows ∧ m ≤ 1000 ∧ l.length ≤ 100 ∧ (∀ x ∈ l, Part ws ((rows.length : Int) - 1) x) ∧ k < rows.length ∧ Q (kyD rows k l) s
theorem mono__law_key : MonoSp sp__law_key := fun _ _ _ _ _ _ f _ ⟨m, ws, rows, l, k, h1, h2, h3, h4, h5, h6, h⟩ => ⟨m, ws, rows, l, k, h1, h2, h3, h4, h5, h6, f _ _ h⟩
theorem len__law_key : ∀ ds s Q E, sp__law_key ds s Q E → ds.length = ["book", "split", "start"].length := fun _ _ _ _ ⟨_, _, _, _, _, h, _⟩ => by rw [h]; rfl
def sp__law_first_right : SpD := fun ds s Q _ => ∃ (m : Nat) (ws rows : List D) (z : Str) (k : Nat), ds = [.tup [.lst ws, .lst rows], .str z, inD k, .lst (cheapL ws rows z k)] ∧ Gv m ws rows z ∧ k < rows.length ∧ ∀ s', s.length ≤ s'.length → (∀ j, j < s.length → s'[j]? = s[j]?) → Q (.bl true) s'
theorem mono__law_first_right : MonoSp sp__law_first_right := fun _ _ _ _ _ _ f _ ⟨m, ws, rows, z, k, h1, h2, h3, h⟩ => ⟨m, ws, rows, z, k, h1, h2, h3, fun s' a1 a2 => f _ _ (h s' a1 a2)⟩
theorem len__law_first_right : ∀ ds s Q E, sp__law_first_right ds s Q E → ds.length = ["book", "left", "start", "told"].length := fun _ _ _ _ ⟨_, _, _, _, _, h, _⟩ => by rw [h]; rfl
def sp__law_right : SpD := fun ds s Q _ => ∃ c p b, ds = [.ref p, .bl b] ∧ Ps c p s ∧ c ≤ 1000 ∧ ∀ s', Q (.bl true) s'
theorem mono__law_right : MonoSp sp__law_right := fun _ _ _ _ _ _ f _ ⟨c, p, b, h1, h2, h3, h⟩ => ⟨c, p, b, h1, h2, h3, fun s' => f _ _ (h s')⟩
theorem len__law_right : ∀ ds s Q E, sp__law_right ds s Q E → ds.length = ["pot", "wide"].length := fun _ _ _ _ ⟨_, _, _, h, _⟩ => by rw [h]; rfl
end Qk11
set_option Elab.async false
set_option linter.all false
set_option autoImplicit false
set_option maxRecDepth 100000
set_option maxHeartbeats 4000000
namespace Qk11
open PySem PySem.Spec PyProof.Rows L2 Dl
open Bk Fb
open Od
def b_is_split : SD := (dSeq (dDrop (dCall sp_need_both [] (dCons (dVar 0) (dCons (dVar 1) dNil))))
  (dRet (dCall sp_parts_to [] (dCons (dVar 0) (dCons (dVar 1) (dCons (dVar 2) dNil))))))
def b__law_front : SD := (dSeq (dAsg (dBin (oF idxF) (dVar 0) (dC (.int 1))) (gN 2))
  (dSeq (dAsg (dBin (oF addF) (dLst (dCons (dDisp1 (dBin (oF subF) (dCB lenF (dCons (dVar 2) dNil)) (dC (.int 1))) (dTup (dCons (dC (.int 0)) (dCons (dC (.int 1)) dNil)))) dNil)) (dLc (iW (dVar 1)) (CT.g (.one 12)) dYes dDNewK [12])) (gN 3))
  (dSeq (dFor (iR1 (dCons (dCB lenF (dCons (dVar 1) dNil)) dNil)) (gN 4) (dLock (dFor (iKeysD (dBin (oF idxF) (dVar 3) (dVar 4))) (gN 5) (dSeq (dAsg (dDGet (dBin (oF idxF) (dVar 3) (dVar 4)) (dVar 5)) (gTs [6, 7]))
  (dFor (iW (dCall sp__law_at [] (dCons (dVar 0) (dCons (dVar 1) (dCons (dVar 4) dNil))))) (gN 8) (dSeq (dAsg (dBin (oF idxF) (dVar 3) (dBin (oF addF) (dVar 4) (dCB lenF (dCons (dBin (oF idxF) (dVar 8) (dC (.int 0))) dNil)))) (gN 9))
  (dSeq (dAsg (dBin (oF addF) (dBin (oF addF) (dVar 6) (dBin (oF idxF) (dBin (oF idxF) (dVar 2) (dVar 5)) (dBin (oF idxF) (dVar 8) (dC (.int 3))))) (dBin (oF idxF) (dVar 8) (dC (.int 2)))) (gN 10))
  (dSeq (dAsg (dDGet2 (dVar 9) (dBin (oF idxF) (dVar 8) (dC (.int 3))) (dTup (dCons (dBin (oF addF) (dVar 10) (dC (.int 1))) (dCons (dC (.int 0)) dNil)))) (gN 11))
  (dIfS (dTest (dBin (oF ltF) (dVar 10) (dBin (oF idxF) (dVar 11) (dC (.int 0))))) (dDPut (dVar 9) (dBin (oF idxF) (dVar 8) (dC (.int 3))) (dTup (dCons (dVar 10) (dCons (dVar 7) dNil)))) (dIfS (dTest (dBin (oF eqF) (dVar 10) (dBin (oF idxF) (dVar 11) (dC (.int 0))))) (dDPut (dVar 9) (dBin (oF idxF) (dVar 8) (dC (.int 3))) (dTup (dCons (dVar 10) (dCons (dBin (oF addF) (dBin (oF idxF) (dVar 11) (dC (.int 1))) (dVar 7)) dNil)))) dNext))))))))))
  (dRet (dVar 3)))))
def b__law_least : SD := (dSeq (dAsg (dBin (oF idxF) (dVar 0) (dC (.int 1))) (gN 2))
  (dSeq (dAsg (dBin (oF idxF) (dCall sp__law_front [] (dCons (dVar 0) (dCons (dVar 1) dNil))) (dUn negF (dC (.int 1)))) (gN 3))
  (dSeq (dLock (dAsg (dLc (iKeysD (dVar 3)) (CT.g (.one 6)) dYes (dTup (dCons (dBin (oF addF) (dBin (oF idxF) (dDGet (dVar 3) (dVar 6)) (dC (.int 0))) (dBin (oF idxF) (dBin (oF idxF) (dVar 2) (dVar 6)) (dUn negF (dC (.int 1))))) (dCons (dBin (oF idxF) (dDGet (dVar 3) (dVar 6)) (dC (.int 1))) dNil))) [6]) (gN 4)))
  (dSeq (dAsg (dCB minLF (dCons (dLc (iW (dVar 4)) (CT.g (.many [7, 8])) dYes (dVar 7) [7, 8]) dNil)) (gN 5))
  (dRet (dTup (dCons (dVar 5) (dCons (dCB sumF (dCons (dLc (iW (dVar 4)) (CT.g (.many [7, 8])) (dTest (dBin (oF eqF) (dVar 7) (dVar 5))) (dVar 8) [7, 8]) dNil)) dNil))))))))
def b__law_key : SD := (dSeq (dAsg (dBin (oF idxF) (dVar 0) (dC (.int 1))) (gN 3))
  (dSeq (dAsg (dBin (oF addF) (dBin (oF addF) (dLst (dCons (dVar 2) dNil)) (dLc (iW (dVar 1)) (CT.g (.one 6)) dYes (dBin (oF idxF) (dVar 6) (dC (.int 3))) [6])) (dLst (dCons (dBin (oF subF) (dCB lenF (dCons (dVar 3) dNil)) (dC (.int 1))) dNil))) (gN 4))
  (dSeq (dAsg (dBin (oF addF) (dCB sumF (dCons (dLc (iW (dVar 1)) (CT.g (.one 6)) dYes (dBin (oF idxF) (dVar 6) (dC (.int 2))) [6]) dNil)) (dCB sumF (dCons (dLc (iR1 (dCons (dBin (oF subF) (dCB lenF (dCons (dVar 4) dNil)) (dC (.int 1))) dNil)) (CT.g (.one 7)) dYes (dBin (oF idxF) (dBin (oF idxF) (dVar 3) (dBin (oF idxF) (dVar 4) (dVar 7))) (dBin (oF idxF) (dVar 4) (dBin (oF addF) (dVar 7) (dC (.int 1))))) [7]) dNil))) (gN 5))
  (dRet (dTup (dCons (dVar 5) (dCons (dCB lenF (dCons (dVar 1) dNil)) (dCons (dLc (iW (dVar 1)) (CT.g (.one 6)) dYes (dSl (dVar 6) dNoP (dP (dC (.int 2)))) [6]) dNil))))))))
def b__law_first_right : SD := (dSeq (dIfS (dTest (dBin (oF neF) (dCallK sp_cheapest (dCons (dVar 0) (dCons (dVar 1) dNil)) (dVar 2)) (dVar 3))) (dRet (dC (.bl false))) dNext)
  (dSeq (dAsg (dCall sp__law_key [] (dCons (dVar 0) (dCons (dVar 3) (dCons (dVar 2) dNil)))) (gN 4))
  (dSeq (dFor (iW (dCall sp__law_at [] (dCons (dVar 0) (dCons (dVar 1) (dCons (dC (.int 0)) dNil))))) (gN 5) (dSeq (dAsg (dSl (dVar 1) (dP (dCB lenF (dCons (dBin (oF idxF) (dVar 5) (dC (.int 0))) dNil))) dNoP) (gN 6))
  (dSeq (dAsg (dLst (dCons (dVar 5) dNil)) (gN 7))
  (dSeq (dIfS (dTest (dBin (oF neF) (dVar 6) (dC (.str "")))) (dAsg (dBin (oF addF) (dVar 7) (dCallK sp_cheapest (dCons (dVar 0) (dCons (dVar 6) dNil)) (dBin (oF idxF) (dVar 5) (dC (.int 3))))) (gN 7)) dNext)
  (dIfS (dTest (dBin (oF ltDF) (dCall sp__law_key [] (dCons (dVar 0) (dCons (dVar 7) (dCons (dVar 2) dNil)))) (dVar 4))) (dRet (dC (.bl false))) dNext)))))
  (dRet (dC (.bl true))))))
def b__law_right : SD := (dSeq (dAsg (dCall sp__law_letters [] (dCons (dVar 0) dNil)) (gN 2))
  (dSeq (dAsg (dCall sp__law_book [] (dCons (dVar 0) (dCons (dVar 2) (dCons (dC (.int 10)) dNil)))) (gN 3))
  (dSeq (dAsg (dCall sp__law_reading [] (dCons (dVar 0) (dCons (dVar 3) (dCons (dVar 2) (dCons (dC (.int 24)) dNil))))) (gN 4))
  (dSeq (dIfS (dAnd (dTest (dVar 1)) (dTest (dBin (oF eqF) (dCall sp__law_take [] (dCons (dVar 0) (dCons (dC (.int 4)) dNil))) (dC (.int 0))))) (dAsg (dSl (dBin oMul (dVar 4) (dC (.int 40))) dNoP (dP (dC (.int 40)))) (gN 4)) dNext)
  (dSeq (dAsg (dCall sp_cheapest [.non] (dCons (dVar 3) (dCons (dVar 4) dNil))) (gN 5))
  (dSeq (dIfS (dOr (dTest (dBin (oF isNotBF) (dCall sp_is_split [] (dCons (dVar 3) (dCons (dVar 4) (dCons (dVar 5) dNil)))) (dC (.bl true)))) (dTest (dBin (oF neF) (dCall sp_cost_of [.non] (dCons (dVar 3) (dCons (dVar 5) dNil))) (dBin (oF idxF) (dCall sp__law_least [] (dCons (dVar 3) (dCons (dVar 4) dNil))) (dC (.int 0)))))) (dRet (dC (.bl false))) dNext)
  (dSeq (dAsg (dVar 4) (gN 6))
  (dSeq (dAsg (dBin (oF subF) (dCB lenF (dCons (dBin (oF idxF) (dVar 3) (dC (.int 1))) dNil)) (dC (.int 1))) (gN 7))
  (dSeq (dFor (iR1 (dCons (dCB lenF (dCons (dVar 5) dNil)) dNil)) (gN 8) (dSeq (dIfS (dAnd (dOr (dTest (dBin (oF ltF) (dVar 8) (dC (.int 5)))) (dTest (dBin (oF eqF) (dBin oMod (dVar 8) (dC (.int 6))) (dC (.int 0))))) (dNot (dTest (dCall sp__law_first_right [] (dCons (dVar 3) (dCons (dVar 6) (dCons (dVar 7) (dCons (dSl (dVar 5) (dP (dVar 8)) dNoP) dNil)))))))) (dRet (dC (.bl false))) dNext)
  (dSeq (dAsg (dSl (dVar 6) (dP (dCB lenF (dCons (dBin (oF idxF) (dBin (oF idxF) (dVar 5) (dVar 8)) (dC (.int 0))) dNil))) dNoP) (gN 6))
  (dAsg (dBin (oF idxF) (dBin (oF idxF) (dVar 5) (dVar 8)) (dC (.int 3))) (gN 7)))))
  (dRet (dBin (oF eqF) (dVar 6) (dC (.str "")))))))))))))
def b_law : SD := (dSeq (dFor (iR1 (dCons (dCB max2F (dCons (dC (.int 1)) (dCons (dCB min2F (dCons (dC (.int 6)) (dCons (dCB lenF (dCons (dVar 0) dNil)) dNil))) dNil))) dNil)) (gN 1) (dIfS (dNot (dTest (dCall sp__law_right [] (dCons (dCall sp__law_pot [] (dCons (dVar 0) (dCons (dVar 1) dNil))) (dCons (dBin (oF eqF) (dVar 1) (dC (.int 0))) dNil))))) (dRet (dC (.bl false))) dNext))
  (dRet (dC (.bl true))))
end Qk11
set_option Elab.async false
set_option linter.all false
set_option autoImplicit false
set_option maxRecDepth 100000
set_option maxHeartbeats 4000000
namespace Qk11
open PySem PySem.Spec PyProof.Rows L2 Dl
open Bk Fb
open Od
def top (i : Nat) : Stmt := PySem.Challenge.pw_asshown_k11_whole_rests_of_the_cheapest.main.body.getD i (.Pass ⟨0, 0, 0, 0⟩)
def clsB : Stmt → List Stmt
  | .ClassDef (body := b) .. => b
  | _ => []
def topM (i j : Nat) : Stmt := (clsB (top i)).getD j (.Pass ⟨0, 0, 0, 0⟩)
structure Tx (K : PySem.W.Frag) (mg : Str → Option Value) : Prop where
  f_Order_split_end : HasF K "Order" "split_end"
  f_Order_split_joins : HasF K "Order" "split_joins"
  f_Order_split_known : HasF K "Order" "split_known"
  f_Order_split_words : HasF K "Order" "split_words"
  n_all : mg "all" = none
  n_bool : mg "bool" = none
  n_enumerate : mg "enumerate" = none
  n_int : mg "int" = none
  n_isinstance : mg "isinstance" = none
  n_len : mg "len" = none
  n_list : mg "list" = none
  n_max : mg "max" = none
  n_min : mg "min" = none
  n_range : mg "range" = none
  n_str : mg "str" = none
  n_sum : mg "sum" = none
  n_tuple : mg "tuple" = none
  c_LARGE : ∃ t, mg "LARGE" = some (.str "ABCDEFGHIJKLMNOPQRSTUVWXYZ" t)
  c_LONGEST : ∃ t, mg "LONGEST" = some (.int 12 t)
  c_MOST : ∃ t, mg "MOST" = some (.int 40 t)
  c_PLAIN : ∃ t, mg "PLAIN" = some (.int 1000 t)
  c_SMALL : ∃ t, mg "SMALL" = some (.str "abcdefghijklmnopqrstuvwxyz" t)
abbrev s__law_take : Stmt := top 32
theorem sc__law_take : FnScope ["pot", "many", "mixed", "found"] ["pot", "many"] (defScope s__law_take) := ⟨rfl, rfl, rfl, by decide +kernel, rfl, by decide +kernel, by decide +kernel⟩
theorem d__law_take {P : Program} {w : World} {K : PySem.W.Frag} {mg : Str → Option Value} {base : Heap} (T : Tx K mg) (f : Addr) (cdv : Value) (A : Around) (outer : List PySem.Env) (s : Shared) (H : Hp) (E : XK) (hr : RoomG 0 (A.deeper (envOfC "_law_take" (defScope s__law_take) s.heap.objs.size f cdv))) :
    PSsD (dx0 (cxOf CX0 P w K mg base ["pot", "many", "mixed", "found"] "_law_take" (defScope s__law_take) f cdv A outer s H E).nox) (defBody s__law_take) b__law_take :=
  have hu := hr.units
  (pssd_cons (psd_if (ptd_cmp opx_gtB mono_oF (pd_ix (pd_var 0 (pv 0)) pd_int (fun _ _ => by with_unfolding_all rfl)) pd_int (nomark _)) (pssd_cons (psd_set (i := 3) sc__law_take.nd rfl (by first | exact Or.inl rfl | exact Or.inr rfl) (pd_bin opx_mod mono_iic (pd_ix (pd_var 0 (pv 0)) pd_int (fun _ _ => by with_unfolding_all rfl)) (pd_var 1 (pv 1))))
      (pssd_cons (psd_asg (pd_bin opx_fdiv mono_iic (pd_ix (pd_var 0 (pv 0)) pd_int (fun _ _ => by with_unfolding_all rfl)) (pd_var 1 (pv 1))) (pgd_ix (pd_var 0 (pv 0)) pd_int))
      (pssd_one (psd_ret (pd_var 3 (pv 3)))))) pssd_nil)
      (pssd_cons (psd_asg (pd_bin opx_add mono_oF (pd_ix (pd_var 0 (pv 0)) pd_int (fun _ _ => by with_unfolding_all rfl)) pd_int) (pgd_ix (pd_var 0 (pv 0)) pd_int))
      (pssd_cons (psd_set (i := 2) sc__law_take.nd rfl (by first | exact Or.inl rfl | exact Or.inr rfl) (pd_bin opx_mod mono_iic (pd_bin opx_pow mono_iic (pd_bin opx_add mono_oF (pd_ix (pd_var 0 (pv 0)) pd_int (fun _ _ => by with_unfolding_all rfl)) (pd_bin opx_mul (mono_oOr mono_iic mono_oF) pd_int (pd_ix (pd_var 0 (pv 0)) pd_int (fun _ _ => by with_unfolding_all rfl)))) pd_int) pd_int))
      (pssd_cons (psd_set (i := 2) sc__law_take.nd rfl (by first | exact Or.inl rfl | exact Or.inr rfl) (pd_bin opx_mod mono_iic (pd_bin opx_pow mono_iic (pd_bin opx_add mono_oF (pd_var 2 (pv 2)) (pd_bin opx_mul (mono_oOr mono_iic mono_oF) pd_int (pd_ix (pd_var 0 (pv 0)) pd_int (fun _ _ => by with_unfolding_all rfl)))) pd_int) pd_int))
      (pssd_one (psd_ret (pd_bin opx_mod mono_iic (pd_bin opx_fdiv mono_iic (pd_var 2 (pv 2)) pd_int) (pd_var 1 (pv 1)))))))))
abbrev s__law_letters : Stmt := top 33
theorem sc__law_letters : FnScope ["pot"] ["pot"] (defScope s__law_letters) := ⟨rfl, rfl, rfl, by decide +kernel, rfl, by decide +kernel, by decide +kernel⟩
theorem d__law_letters {P : Program} {w : World} {K : PySem.W.Frag} {mg : Str → Option Value} {base : Heap} (T : Tx K mg) (c__law_take : Kn P w K mg base "_law_take" 1 ["pot", "many"] sp__law_take) (f : Addr) (cdv : Value) (A : Around) (outer : List PySem.Env) (s : Shared) (H : Hp) (E : XK) (hr : RoomG 1 (A.deeper (envOfC "_law_letters" (defScope s__law_letters) s.heap.objs.size f cdv))) :
    PSsD (dx0 (cxOf CX0 P w K mg base ["pot"] "_law_letters" (defScope s__law_letters) f cdv A outer s H E).nox) (defBody s__law_letters) b__law_letters :=
  have hu := hr.units
  (pssd_one (psd_ret (pd_ix (pd_lst (pad_cons pd_str (pad_cons pd_str (pad_cons pd_str (pad_cons pd_str (pad_cons pd_str pad_nil)))))) (pd_kn c__law_take hr rfl (pad_cons (pd_var 0 (pv 0)) (pad_cons pd_int pad_nil))) (fun _ _ => by with_unfolding_all rfl))))
abbrev s__law_cost : Stmt := top 34
theorem sc__law_cost : FnScope ["pot", "way", "some"] ["pot", "way"] (defScope s__law_cost) := ⟨rfl, rfl, rfl, by decide +kernel, rfl, by decide +kernel, by decide +kernel⟩
theorem d__law_cost {P : Program} {w : World} {K : PySem.W.Frag} {mg : Str → Option Value} {base : Heap} (T : Tx K mg) (c__law_take : Kn P w K mg base "_law_take" 1 ["pot", "many"] sp__law_take) (f : Addr) (cdv : Value) (A : Around) (outer : List PySem.Env) (s : Shared) (H : Hp) (E : XK) (hr : RoomG 1 (A.deeper (envOfC "_law_cost" (defScope s__law_cost) s.heap.objs.size f cdv))) :
    PSsD (dx0 (cxOf CX0 P w K mg base ["pot", "way", "some"] "_law_cost" (defScope s__law_cost) f cdv A outer s H E).nox) (defBody s__law_cost) b__law_cost :=
  have hu := hr.units
  (pssd_cons (psd_set (i := 2) sc__law_cost.nd rfl (by first | exact Or.inl rfl | exact Or.inr rfl) (pd_lst (pad_cons pd_int (pad_cons (pd_kn c__law_take hr rfl (pad_cons (pd_var 0 (pv 0)) (pad_cons pd_int pad_nil))) (pad_cons (pd_bin opx_add mono_oF pd_int (pd_kn c__law_take hr rfl (pad_cons (pd_var 0 (pv 0)) (pad_cons pd_int pad_nil)))) (pad_cons (pd_kn c__law_take hr rfl (pad_cons (pd_var 0 (pv 0)) (pad_cons pd_int pad_nil))) (pad_cons (pd_kn c__law_take hr rfl (pad_cons (pd_var 0 (pv 0)) (pad_cons (pd_bin opx_pow mono_iic pd_int pd_int) pad_nil))) pad_nil)))))))
      (pssd_one (psd_ret (pd_ix (pd_bin opx_add mono_oF (pd_var 2 (pv 2)) (pd_lst (pad_cons (pd_bin opx_sub mono_oF (pd_bin opx_pow mono_iic pd_int pd_int) pd_int) pad_nil))) (pd_var 1 (pv 1)) (fun _ _ => by with_unfolding_all rfl)))))
abbrev s__law_word : Stmt := top 35
abbrev N__law_word : List Str := ["pot", "letters", "kinds", "way", "many", "reading", "writing", "k"]
theorem sc__law_word : FnScope ["pot", "letters", "kinds", "way", "many", "reading", "writing", "k"] ["pot", "letters", "kinds", "way"] (defScope s__law_word) := ⟨rfl, rfl, rfl, by decide +kernel, rfl, by decide +kernel, by decide +kernel⟩
theorem d__law_word {P : Program} {w : World} {K : PySem.W.Frag} {mg : Str → Option Value} {base : Heap} (T : Tx K mg) (c__law_take : Kn P w K mg base "_law_take" 1 ["pot", "many"] sp__law_take) (c__law_cost : Kn P w K mg base "_law_cost" 2 ["pot", "way"] sp__law_cost) (f : Addr) (cdv : Value) (A : Around) (outer : List PySem.Env) (s : Shared) (H : Hp) (E : XK) (hr : RoomG 2 (A.deeper (envOfC "_law_word" (defScope s__law_word) s.heap.objs.size f cdv))) :
    PSsD (dx0 (cxOf CX0 P w K mg base ["pot", "letters", "kinds", "way", "many", "reading", "writing", "k"] "_law_word" (defScope s__law_word) f cdv A outer s H E).nox) (defBody s__law_word) b__law_word :=
  have hu := hr.units
  (pssd_cons (psd_set (i := 4) sc__law_word.nd rfl (by first | exact Or.inl rfl | exact Or.inr rfl) (pd_ix (pd_lst (pad_cons pd_int (pad_cons pd_int (pad_cons (pd_bin opx_add mono_oF pd_int (pd_kn c__law_take (hr.mono (by decide)) rfl (pad_cons (pd_var 0 (pv 0)) (pad_cons pd_int pad_nil)))) (pad_cons (pd_bin opx_add mono_oF pd_int (pd_kn c__law_take (hr.mono (by decide)) rfl (pad_cons (pd_var 0 (pv 0)) (pad_cons pd_int pad_nil)))) pad_nil))))) (pd_ix (pd_lst (pad_cons pd_int (pad_cons pd_int (pad_cons pd_int (pad_cons pd_int (pad_cons pd_int (pad_cons pd_int (pad_cons pd_int (pad_cons pd_int pad_nil))))))))) (pd_kn c__law_take (hr.mono (by decide)) rfl (pad_cons (pd_var 0 (pv 0)) (pad_cons pd_int pad_nil))) (fun _ _ => by with_unfolding_all rfl)) (fun _ _ => by with_unfolding_all rfl)))
      (pssd_cons (psd_set (i := 5) sc__law_word.nd rfl (by first | exact Or.inl rfl | exact Or.inr rfl) (pd_join pd_str (pd_lc (own := [("k", 7)]) (.one 7) rfl sc__law_word.nd (pid_range1 rfl T.n_range (pad_cons (pd_var 4 (pv 4)) pad_nil)) (blkOk_by (N := N__law_word) (sc := defScope s__law_word) (own := [("k", 7)]) (by decide +kernel)) ⟨fun _ _ _ _ _ => (pg_name (i := 7) sc__law_word.nd rfl (by first | exact Or.inl rfl | exact Or.inr rfl)), fun _ _ _ _ _ => ptsd_nil, fun _ _ _ _ _ => (pd_ix (pd_var 1 (pv 1)) (pd_kn c__law_take (hr.mono (by decide)) rfl (pad_cons (pd_var 0 (pv 0)) (pad_cons (pd_callB callx_len rfl T.n_len (show bootBuiltins "len" = some (.builtin "len") by decide +kernel) (pad_cons (pd_var 1 (pv 1)) pad_nil)) pad_nil))) (fun _ _ => by with_unfolding_all rfl))⟩ (by decide))))
      (pssd_cons (psd_set (i := 6) sc__law_word.nd rfl (by first | exact Or.inl rfl | exact Or.inr rfl) (pd_join pd_str (pd_lc (own := [("k", 7)]) (.one 7) rfl sc__law_word.nd (pid_range1 rfl T.n_range (pad_cons (pd_ix (pd_lst (pad_cons pd_int (pad_cons pd_int (pad_cons pd_int (pad_cons pd_int pad_nil))))) (pd_kn c__law_take (hr.mono (by decide)) rfl (pad_cons (pd_var 0 (pv 0)) (pad_cons pd_int pad_nil))) (fun _ _ => by with_unfolding_all rfl)) pad_nil)) (blkOk_by (N := N__law_word) (sc := defScope s__law_word) (own := [("k", 7)]) (by decide +kernel)) ⟨fun _ _ _ _ _ => (pg_name (i := 7) sc__law_word.nd rfl (by first | exact Or.inl rfl | exact Or.inr rfl)), fun _ _ _ _ _ => ptsd_nil, fun _ _ _ _ _ => (pd_ix pd_str (pd_kn c__law_take (hr.mono (by decide)) rfl (pad_cons (pd_var 0 (pv 0)) (pad_cons pd_int pad_nil))) (fun _ _ => by with_unfolding_all rfl))⟩ (by decide))))
      (pssd_one (psd_ret (pd_tup (pad_cons (pd_var 5 (pv 5)) (pad_cons (pd_var 6 (pv 6)) (pad_cons (pd_kn c__law_cost hr rfl (pad_cons (pd_var 0 (pv 0)) (pad_cons (pd_var 3 (pv 3)) pad_nil))) (pad_cons (pd_kn c__law_take (hr.mono (by decide)) rfl (pad_cons (pd_var 0 (pv 0)) (pad_cons (pd_var 2 (pv 2)) pad_nil))) pad_nil))))))))))
abbrev s__law_book : Stmt := top 36
abbrev N__law_book : List Str := ["pot", "letters", "most", "kinds", "ways", "words", "k", "joins", "word", "one", "j"]
theorem sc__law_book : FnScope ["pot", "letters", "most", "kinds", "ways", "words", "k", "joins", "word", "one", "j"] ["pot", "letters", "most"] (defScope s__law_book) := ⟨rfl, rfl, rfl, by decide +kernel, rfl, by decide +kernel, by decide +kernel⟩
theorem d__law_book {P : Program} {w : World} {K : PySem.W.Frag} {mg : Str → Option Value} {base : Heap} (T : Tx K mg) (c__law_take : Kn P w K mg base "_law_take" 1 ["pot", "many"] sp__law_take) (c__law_word : Kn P w K mg base "_law_word" 3 ["pot", "letters", "kinds", "way"] sp__law_word) (c__law_cost : Kn P w K mg base "_law_cost" 2 ["pot", "way"] sp__law_cost) (f : Addr) (cdv : Value) (A : Around) (outer : List PySem.Env) (s : Shared) (H : Hp) (E : XK) (hr : RoomG 3 (A.deeper (envOfC "_law_book" (defScope s__law_book) s.heap.objs.size f cdv))) :
    PSsD (dx0 (cxOf CX0 P w K mg base ["pot", "letters", "most", "kinds", "ways", "words", "k", "joins", "word", "one", "j"] "_law_book" (defScope s__law_book) f cdv A outer s H E).nox) (defBody s__law_book) b__law_book :=
  have hu := hr.units
  (pssd_cons (psd_set (i := 3) sc__law_book.nd rfl (by first | exact Or.inl rfl | exact Or.inr rfl) (pd_ix (pd_lst (pad_cons pd_int (pad_cons pd_int (pad_cons pd_int (pad_cons (pd_kn c__law_take (hr.mono (by decide)) rfl (pad_cons (pd_var 0 (pv 0)) (pad_cons pd_int pad_nil))) pad_nil))))) (pd_kn c__law_take (hr.mono (by decide)) rfl (pad_cons (pd_var 0 (pv 0)) (pad_cons pd_int pad_nil))) (fun _ _ => by with_unfolding_all rfl)))
      (pssd_cons (psd_set (i := 4) sc__law_book.nd rfl (by first | exact Or.inl rfl | exact Or.inr rfl) (pd_lst (pad_cons (pd_kn c__law_take (hr.mono (by decide)) rfl (pad_cons (pd_var 0 (pv 0)) (pad_cons pd_int pad_nil))) (pad_cons (pd_kn c__law_take (hr.mono (by decide)) rfl (pad_cons (pd_var 0 (pv 0)) (pad_cons pd_int pad_nil))) pad_nil))))
      (pssd_cons (psd_set (i := 5) sc__law_book.nd rfl (by first | exact Or.inl rfl | exact Or.inr rfl) (pd_new pad_nil))
      (pssd_cons (psd_for PassesOwn.never rfl (pid_range1 rfl T.n_range (pad_cons (pd_bin opx_mul (mono_oOr mono_iic mono_oF) (pd_kn c__law_take (hr.mono (by decide)) rfl (pad_cons (pd_var 0 (pv 0)) (pad_cons (pd_bin opx_add mono_oF (pd_var 2 (pv 2)) pd_int) pad_nil))) (pd_callTy callx_int rfl T.n_int (show bootBuiltins "int" = some (.type "int") by decide +kernel) (pad_cons (pd_cmp opx_gtB mono_oF (pd_var 3 (pv 3)) pd_int (nomark _)) pad_nil))) pad_nil)) (pgd_name (i := 6) (pg_name (i := 6) sc__law_book.nd rfl (by first | exact Or.inl rfl | exact Or.inr rfl))) (pssd_cons (psd_set (i := 8) sc__law_book.nd rfl (by first | exact Or.inl rfl | exact Or.inr rfl) (pd_kn c__law_word hr rfl (pad_cons (pd_var 0 (pv 0)) (pad_cons (pd_var 1 (pv 1)) (pad_cons (pd_var 3 (pv 3)) (pad_cons (pd_ix (pd_lst (pad_cons (pd_ix (pd_var 4 (pv 4)) pd_int (fun _ _ => by with_unfolding_all rfl)) (pad_cons (pd_ix (pd_var 4 (pv 4)) pd_int (fun _ _ => by with_unfolding_all rfl)) (pad_cons pd_int (pad_cons pd_int pad_nil))))) (pd_kn c__law_take (hr.mono (by decide)) rfl (pad_cons (pd_var 0 (pv 0)) (pad_cons pd_int pad_nil))) (fun _ _ => by with_unfolding_all rfl)) pad_nil))))))
      (pssd_one (psd_if (ptd_cmp (opx_notInA hu) (mono_oOr mono_oInS mono_oIn) (pd_slice (pd_var 8 (pv 8)) pod_none (pod_some pd_int)) (pd_lc (own := [("one", 9)]) (.one 9) rfl sc__law_book.nd (pid_any (pd_var 5 (pv 5))) (blkOk_by (N := N__law_book) (sc := defScope s__law_book) (own := [("one", 9)]) (by decide +kernel)) ⟨fun _ _ _ _ _ => (pg_name (i := 9) sc__law_book.nd rfl (by first | exact Or.inl rfl | exact Or.inr rfl)), fun _ _ _ _ _ => ptsd_nil, fun _ _ _ _ _ => (pd_slice (pd_var 9 (pv 9)) pod_none (pod_some pd_int))⟩ (by decide)) (by with_unfolding_all rfl)) (pssd_one (psd_expr (pd_mt PySem.F.slot_list_append PySem.F.type_list_append mtx_append (pd_var 5 (pv 5)) (pad_cons (pd_var 8 (pv 8)) pad_nil)))) pssd_nil))))
      (pssd_cons (psd_set (i := 7) sc__law_book.nd rfl (by first | exact Or.inl rfl | exact Or.inr rfl) (pd_new pad_nil))
      (pssd_cons (psd_for PassesOwn.never rfl (pid_range1 rfl T.n_range (pad_cons (pd_bin opx_add mono_oF (pd_var 3 (pv 3)) pd_int) pad_nil)) (pgd_name (i := 6) (pg_name (i := 6) sc__law_book.nd rfl (by first | exact Or.inl rfl | exact Or.inr rfl))) (pssd_one (psd_expr (pd_mt PySem.F.slot_list_append PySem.F.type_list_append mtx_append (pd_var 7 (pv 7)) (pad_cons (pd_lc (own := [("j", 10)]) (.one 10) rfl sc__law_book.nd (pid_range1 rfl T.n_range (pad_cons (pd_bin opx_add mono_oF (pd_var 3 (pv 3)) pd_int) pad_nil)) (blkOk_by (N := N__law_book) (sc := defScope s__law_book) (own := [("j", 10)]) (by decide +kernel)) ⟨fun _ _ _ _ _ => (pg_name (i := 10) sc__law_book.nd rfl (by first | exact Or.inl rfl | exact Or.inr rfl)), fun _ _ _ _ _ => ptsd_nil, fun _ _ _ _ _ => (pd_kn c__law_cost (hr.mono (by decide)) rfl (pad_cons (pd_var 0 (pv 0)) (pad_cons (pd_ix (pd_lst (pad_cons (pd_ix (pd_var 4 (pv 4)) pd_int (fun _ _ => by with_unfolding_all rfl)) (pad_cons (pd_ix (pd_var 4 (pv 4)) pd_int (fun _ _ => by with_unfolding_all rfl)) (pad_cons pd_int pad_nil)))) (pd_kn c__law_take (hr.mono (by decide)) rfl (pad_cons (pd_var 0 (pv 0)) (pad_cons pd_int pad_nil))) (fun _ _ => by with_unfolding_all rfl)) pad_nil)))⟩ (by decide)) pad_nil)))))
      (pssd_one (psd_ret (pd_tup (pad_cons (pd_frz (pd_var 5 (pv 5))) (pad_cons (pd_frz (pd_var 7 (pv 7))) pad_nil)))))))))))
abbrev s__law_reading : Stmt := top 38
theorem sc__law_reading : FnScope ["pot", "book", "letters", "most", "many", "found", "some"] ["pot", "book", "letters", "most"] (defScope s__law_reading) := ⟨rfl, rfl, rfl, by decide +kernel, rfl, by decide +kernel, by decide +kernel⟩
theorem d__law_reading {P : Program} {w : World} {K : PySem.W.Frag} {mg : Str → Option Value} {base : Heap} (T : Tx K mg) (c__law_take : Kn P w K mg base "_law_take" 1 ["pot", "many"] sp__law_take) (f : Addr) (cdv : Value) (A : Around) (outer : List PySem.Env) (s : Shared) (H : Hp) (E : XK) (hr : RoomG 1 (A.deeper (envOfC "_law_reading" (defScope s__law_reading) s.heap.objs.size f cdv))) :
    PSsD (dx0 (cxOf CX0 P w K mg base ["pot", "book", "letters", "most", "many", "found", "some"] "_law_reading" (defScope s__law_reading) f cdv A outer s H E).nox) (defBody s__law_reading) b__law_reading :=
  have hu := hr.units
  (pssd_cons (psd_set (i := 4) sc__law_reading.nd rfl (by first | exact Or.inl rfl | exact Or.inr rfl) (pd_ix (pd_lst (pad_cons (pd_bin opx_add mono_oF pd_int (pd_kn c__law_take hr rfl (pad_cons (pd_var 0 (pv 0)) (pad_cons pd_int pad_nil)))) (pad_cons (pd_bin opx_add mono_oF pd_int (pd_kn c__law_take hr rfl (pad_cons (pd_var 0 (pv 0)) (pad_cons (pd_var 3 (pv 3)) pad_nil)))) (pad_cons (pd_var 3 (pv 3)) pad_nil)))) (pd_kn c__law_take hr rfl (pad_cons (pd_var 0 (pv 0)) (pad_cons pd_int pad_nil))) (fun _ _ => by with_unfolding_all rfl)))
      (pssd_cons (psd_set (i := 5) sc__law_reading.nd rfl (by first | exact Or.inl rfl | exact Or.inr rfl) pd_str)
      (pssd_cons (psd_while PassesOwn.never (ptd_cmp opx_lt mono_oF (pd_callB callx_len rfl T.n_len (show bootBuiltins "len" = some (.builtin "len") by decide +kernel) (pad_cons (pd_var 5 (pv 5)) pad_nil)) (pd_var 4 (pv 4)) (nomark _)) (pssd_cons (psd_set (i := 6) sc__law_reading.nd rfl (by first | exact Or.inl rfl | exact Or.inr rfl) (pd_lst (pad_cons (pd_ix (pd_var 2 (pv 2)) (pd_kn c__law_take hr rfl (pad_cons (pd_var 0 (pv 0)) (pad_cons (pd_callB callx_len rfl T.n_len (show bootBuiltins "len" = some (.builtin "len") by decide +kernel) (pad_cons (pd_var 2 (pv 2)) pad_nil)) pad_nil))) (fun _ _ => by with_unfolding_all rfl)) pad_nil)))
      (pssd_cons (psd_if (ptd_w (pwd_and (ptd_cmp (opx_ne hu) mono_oF (pd_ix (pd_var 1 (pv 1)) pd_int (fun _ _ => by with_unfolding_all rfl)) (pd_lst pad_nil) (nomark _)) (pwd_and1 (ptd_cmp opx_gtB mono_oF (pd_kn c__law_take hr rfl (pad_cons (pd_var 0 (pv 0)) (pad_cons pd_int pad_nil))) pd_int (nomark _))))) (pssd_one (psd_set (i := 6) sc__law_reading.nd rfl (by first | exact Or.inl rfl | exact Or.inr rfl) (pd_lst (pad_cons (pd_ix (pd_ix (pd_ix (pd_var 1 (pv 1)) pd_int (fun _ _ => by with_unfolding_all rfl)) (pd_kn c__law_take hr rfl (pad_cons (pd_var 0 (pv 0)) (pad_cons (pd_callB callx_len rfl T.n_len (show bootBuiltins "len" = some (.builtin "len") by decide +kernel) (pad_cons (pd_ix (pd_var 1 (pv 1)) pd_int (fun _ _ => by with_unfolding_all rfl)) pad_nil)) pad_nil))) (fun _ _ => by with_unfolding_all rfl)) pd_int (fun _ _ => by with_unfolding_all rfl)) pad_nil)))) pssd_nil)
      (pssd_one (psd_set (i := 5) sc__law_reading.nd rfl (by first | exact Or.inl rfl | exact Or.inr rfl) (pd_bin opx_add mono_oF (pd_var 5 (pv 5)) (pd_ix (pd_var 6 (pv 6)) pd_int (fun _ _ => by with_unfolding_all rfl))))))))
      (pssd_one (psd_ret (pd_slice (pd_var 5 (pv 5)) pod_none (pod_some (pd_callB (callx_min2 rfl) rfl T.n_min (show bootBuiltins "min" = some (.builtin "min") by decide +kernel) (pad_cons (pd_var 4 (pv 4)) (pad_cons (pd_var 3 (pv 3)) pad_nil))))))))))
abbrev s_is_small : Stmt := top 13
abbrev N_is_small : List Str := ["thing", "sign"]
theorem sc_is_small : FnScope ["thing", "sign"] ["thing"] (defScope s_is_small) := ⟨rfl, rfl, rfl, by decide +kernel, rfl, by decide +kernel, by decide +kernel⟩
theorem d_is_small {P : Program} {w : World} {K : PySem.W.Frag} {mg : Str → Option Value} {base : Heap} (T : Tx K mg) (f : Addr) (cdv : Value) (A : Around) (outer : List PySem.Env) (s : Shared) (H : Hp) (E : XK) (hr : RoomG 0 (A.deeper (envOfC "is_small" (defScope s_is_small) s.heap.objs.size f cdv))) :
    PSsD (dx0 (cxOf CX0 P w K mg base ["thing", "sign"] "is_small" (defScope s_is_small) f cdv A outer s H E).nox) (defBody s_is_small) b_is_small :=
  have hu := hr.units
  (pssd_one (psd_ret (pd_and (pd_isi rfl T.n_isinstance rfl T.n_str (show bootBuiltins "str" = some (.type "str") by decide +kernel) (by decide) (pd_var 0 (pv 0))) (pd_one (pd_callB (callx_all rfl) rfl T.n_all (show bootBuiltins "all" = some (.builtin "all") by decide +kernel) (pad_cons (pd_lc (own := [("sign", 1)]) (.one 1) rfl sc_is_small.nd (pid_any (pd_var 0 (pv 0))) (blkOk_by (N := N_is_small) (sc := defScope s_is_small) (own := [("sign", 1)]) (by decide +kernel)) ⟨fun _ _ _ _ _ => (pg_name (i := 1) sc_is_small.nd rfl (by first | exact Or.inl rfl | exact Or.inr rfl)), fun _ _ _ _ _ => ptsd_nil, fun _ _ _ _ _ => (pd_cmp (opx_inA hu) (mono_oOr mono_oInS mono_oIn) (pd_var 1 (pv 1)) (pd_gstrE rfl T.c_SMALL) (by with_unfolding_all rfl))⟩ (by decide)) pad_nil))))))
abbrev s_is_reading : Stmt := top 14
theorem sc_is_reading : FnScope ["thing"] ["thing"] (defScope s_is_reading) := ⟨rfl, rfl, rfl, by decide +kernel, rfl, by decide +kernel, by decide +kernel⟩
theorem d_is_reading {P : Program} {w : World} {K : PySem.W.Frag} {mg : Str → Option Value} {base : Heap} (T : Tx K mg) (c_is_small : Kn P w K mg base "is_small" 1 ["thing"] sp_is_small) (f : Addr) (cdv : Value) (A : Around) (outer : List PySem.Env) (s : Shared) (H : Hp) (E : XK) (hr : RoomG 1 (A.deeper (envOfC "is_reading" (defScope s_is_reading) s.heap.objs.size f cdv))) :
    PSsD (dx0 (cxOf CX0 P w K mg base ["thing"] "is_reading" (defScope s_is_reading) f cdv A outer s H E).nox) (defBody s_is_reading) b_is_reading :=
  have hu := hr.units
  (pssd_one (psd_ret (pd_and (pd_kn c_is_small hr rfl (pad_cons (pd_var 0 (pv 0)) pad_nil)) (pd_one (pd_chain opx_le mono_oF opx_le mono_oF pd_int (pd_callB callx_len rfl T.n_len (show bootBuiltins "len" = some (.builtin "len") by decide +kernel) (pad_cons (pd_var 0 (pv 0)) pad_nil)) (pd_gintE rfl T.c_MOST))))))
abbrev s_is_writing : Stmt := top 15
abbrev N_is_writing : List Str := ["thing", "sign"]
theorem sc_is_writing : FnScope ["thing", "sign"] ["thing"] (defScope s_is_writing) := ⟨rfl, rfl, rfl, by decide +kernel, rfl, by decide +kernel, by decide +kernel⟩
theorem d_is_writing {P : Program} {w : World} {K : PySem.W.Frag} {mg : Str → Option Value} {base : Heap} (T : Tx K mg) (f : Addr) (cdv : Value) (A : Around) (outer : List PySem.Env) (s : Shared) (H : Hp) (E : XK) (hr : RoomG 0 (A.deeper (envOfC "is_writing" (defScope s_is_writing) s.heap.objs.size f cdv))) :
    PSsD (dx0 (cxOf CX0 P w K mg base ["thing", "sign"] "is_writing" (defScope s_is_writing) f cdv A outer s H E).nox) (defBody s_is_writing) b_is_writing :=
  have hu := hr.units
  (pssd_one (psd_ret (pd_and (pd_isi rfl T.n_isinstance rfl T.n_str (show bootBuiltins "str" = some (.type "str") by decide +kernel) (by decide) (pd_var 0 (pv 0))) (pd_and (pd_chain opx_le mono_oF opx_le mono_oF pd_int (pd_callB callx_len rfl T.n_len (show bootBuiltins "len" = some (.builtin "len") by decide +kernel) (pad_cons (pd_var 0 (pv 0)) pad_nil)) (pd_gintE rfl T.c_LONGEST)) (pd_one (pd_callB (callx_all rfl) rfl T.n_all (show bootBuiltins "all" = some (.builtin "all") by decide +kernel) (pad_cons (pd_lc (own := [("sign", 1)]) (.one 1) rfl sc_is_writing.nd (pid_any (pd_var 0 (pv 0))) (blkOk_by (N := N_is_writing) (sc := defScope s_is_writing) (own := [("sign", 1)]) (by decide +kernel)) ⟨fun _ _ _ _ _ => (pg_name (i := 1) sc_is_writing.nd rfl (by first | exact Or.inl rfl | exact Or.inr rfl)), fun _ _ _ _ _ => ptsd_nil, fun _ _ _ _ _ => (pd_cmp (opx_inA hu) (mono_oOr mono_oInS mono_oIn) (pd_var 1 (pv 1)) (pd_gstrE rfl T.c_LARGE) (by with_unfolding_all rfl))⟩ (by decide)) pad_nil)))))))
abbrev s_is_count : Stmt := top 12
theorem sc_is_count : FnScope ["thing"] ["thing"] (defScope s_is_count) := ⟨rfl, rfl, rfl, by decide +kernel, rfl, by decide +kernel, by decide +kernel⟩
theorem d_is_count {P : Program} {w : World} {K : PySem.W.Frag} {mg : Str → Option Value} {base : Heap} (T : Tx K mg) (f : Addr) (cdv : Value) (A : Around) (outer : List PySem.Env) (s : Shared) (H : Hp) (E : XK) (hr : RoomG 0 (A.deeper (envOfC "is_count" (defScope s_is_count) s.heap.objs.size f cdv))) :
    PSsD (dx0 (cxOf CX0 P w K mg base ["thing"] "is_count" (defScope s_is_count) f cdv A outer s H E).nox) (defBody s_is_count) b_is_count :=
  have hu := hr.units
  (pssd_one (psd_ret (pd_and (pd_isi rfl T.n_isinstance rfl T.n_int (show bootBuiltins "int" = some (.type "int") by decide +kernel) (by decide) (pd_var 0 (pv 0))) (pd_and (pd_not (pd_isi rfl T.n_isinstance rfl T.n_bool (show bootBuiltins "bool" = some (.type "bool") by decide +kernel) (by decide) (pd_var 0 (pv 0)))) (pd_one (pd_cmp opx_ge mono_oF (pd_var 0 (pv 0)) pd_int (nomark _)))))))
abbrev s_is_word : Stmt := top 16
theorem sc_is_word : FnScope ["thing", "reading", "writing", "cost", "kind"] ["thing"] (defScope s_is_word) := ⟨rfl, rfl, rfl, by decide +kernel, rfl, by decide +kernel, by decide +kernel⟩
theorem d_is_word {P : Program} {w : World} {K : PySem.W.Frag} {mg : Str → Option Value} {base : Heap} (T : Tx K mg) (c_is_reading : Kn P w K mg base "is_reading" 2 ["thing"] sp_is_reading) (c_is_writing : Kn P w K mg base "is_writing" 1 ["thing"] sp_is_writing) (c_is_count : Kn P w K mg base "is_count" 1 ["thing"] sp_is_count) (f : Addr) (cdv : Value) (A : Around) (outer : List PySem.Env) (s : Shared) (H : Hp) (E : XK) (hr : RoomG 2 (A.deeper (envOfC "is_word" (defScope s_is_word) s.heap.objs.size f cdv))) :
    PSsD (dx0 (cxOf CX0 P w K mg base ["thing", "reading", "writing", "cost", "kind"] "is_word" (defScope s_is_word) f cdv A outer s H E).nox) (defBody s_is_word) b_is_word :=
  have hu := hr.units
  (pssd_cons (psd_if (ptd_w (pwd_or (ptd_not (ptd_val (pd_isi rfl T.n_isinstance rfl T.n_tuple (show bootBuiltins "tuple" = some (.type "tuple") by decide +kernel) (by decide) (pd_var 0 (pv 0))))) (pwd_or1 (ptd_cmp (opx_ne hu) mono_oF (pd_callB callx_len rfl T.n_len (show bootBuiltins "len" = some (.builtin "len") by decide +kernel) (pad_cons (pd_var 0 (pv 0)) pad_nil)) pd_int (nomark _))))) (pssd_one (psd_ret pd_bl)) pssd_nil)
      (pssd_cons (psd_asg (pd_var 0 (pv 0)) (pgd_tup rfl (pgs_n1 (pg_name (i := 1) sc_is_word.nd rfl (by first | exact Or.inl rfl | exact Or.inr rfl)) (pgs_n1 (pg_name (i := 2) sc_is_word.nd rfl (by first | exact Or.inl rfl | exact Or.inr rfl)) (pgs_n1 (pg_name (i := 3) sc_is_word.nd rfl (by first | exact Or.inl rfl | exact Or.inr rfl)) (pgs_n1 (pg_name (i := 4) sc_is_word.nd rfl (by first | exact Or.inl rfl | exact Or.inr rfl)) pgs_n0))))))
      (pssd_one (psd_ret (pd_and (pd_kn c_is_reading hr rfl (pad_cons (pd_var 1 (pv 1)) pad_nil)) (pd_and (pd_kn c_is_writing (hr.mono (by decide)) rfl (pad_cons (pd_var 2 (pv 2)) pad_nil)) (pd_and (pd_kn c_is_count (hr.mono (by decide)) rfl (pad_cons (pd_var 3 (pv 3)) pad_nil)) (pd_one (pd_kn c_is_count (hr.mono (by decide)) rfl (pad_cons (pd_var 4 (pv 4)) pad_nil))))))))))
abbrev s_are_joins : Stmt := top 17
abbrev N_are_joins : List Str := ["thing", "row", "join"]
theorem sc_are_joins : FnScope ["thing", "row", "join"] ["thing"] (defScope s_are_joins) := ⟨rfl, rfl, rfl, by decide +kernel, rfl, by decide +kernel, by decide +kernel⟩
theorem d_are_joins {P : Program} {w : World} {K : PySem.W.Frag} {mg : Str → Option Value} {base : Heap} (T : Tx K mg) (c_is_count : Kn P w K mg base "is_count" 1 ["thing"] sp_is_count) (f : Addr) (cdv : Value) (A : Around) (outer : List PySem.Env) (s : Shared) (H : Hp) (E : XK) (hr : RoomG 1 (A.deeper (envOfC "are_joins" (defScope s_are_joins) s.heap.objs.size f cdv))) :
    PSsD (dx0 (cxOf CX0 P w K mg base ["thing", "row", "join"] "are_joins" (defScope s_are_joins) f cdv A outer s H E).nox) (defBody s_are_joins) b_are_joins :=
  have hu := hr.units
  (pssd_cons (psd_if (ptd_w (pwd_or (ptd_not (ptd_val (pd_isi rfl T.n_isinstance rfl T.n_list (show bootBuiltins "list" = some (.type "list") by decide +kernel) (by decide) (pd_var 0 (pv 0))))) (pwd_or1 (ptd_cmp (opx_eq hu) mono_oF (pd_var 0 (pv 0)) (pd_lst pad_nil) (nomark _))))) (pssd_one (psd_ret pd_bl)) pssd_nil)
      (pssd_cons (psd_for PassesOwn.never rfl (pid_any (pd_var 0 (pv 0))) (pgd_name (i := 1) (pg_name (i := 1) sc_are_joins.nd rfl (by first | exact Or.inl rfl | exact Or.inr rfl))) (pssd_one (psd_if (ptd_w (pwd_or (ptd_not (ptd_val (pd_isi rfl T.n_isinstance rfl T.n_list (show bootBuiltins "list" = some (.type "list") by decide +kernel) (by decide) (pd_var 1 (pv 1))))) (pwd_or (ptd_cmp (opx_ne hu) mono_oF (pd_callB callx_len rfl T.n_len (show bootBuiltins "len" = some (.builtin "len") by decide +kernel) (pad_cons (pd_var 1 (pv 1)) pad_nil)) (pd_callB callx_len rfl T.n_len (show bootBuiltins "len" = some (.builtin "len") by decide +kernel) (pad_cons (pd_var 0 (pv 0)) pad_nil)) (nomark _)) (pwd_or1 (ptd_not (ptd_val (pd_callB (callx_all rfl) rfl T.n_all (show bootBuiltins "all" = some (.builtin "all") by decide +kernel) (pad_cons (pd_lc (own := [("join", 2)]) (.one 2) rfl sc_are_joins.nd (pid_any (pd_var 1 (pv 1))) (blkOk_by (N := N_are_joins) (sc := defScope s_are_joins) (own := [("join", 2)]) (by decide +kernel)) ⟨fun _ _ _ _ _ => (pg_name (i := 2) sc_are_joins.nd rfl (by first | exact Or.inl rfl | exact Or.inr rfl)), fun _ _ _ _ _ => ptsd_nil, fun _ _ _ _ _ => (pd_kn c_is_count hr rfl (pad_cons (pd_var 2 (pv 2)) pad_nil))⟩ (by decide)) pad_nil)))))))) (pssd_one (psd_ret pd_bl)) pssd_nil)))
      (pssd_one (psd_ret pd_bl))))
abbrev s_is_book : Stmt := top 18
abbrev N_is_book : List Str := ["thing", "words", "joins", "word"]
theorem sc_is_book : FnScope ["thing", "words", "joins", "word"] ["thing"] (defScope s_is_book) := ⟨rfl, rfl, rfl, by decide +kernel, rfl, by decide +kernel, by decide +kernel⟩
theorem d_is_book {P : Program} {w : World} {K : PySem.W.Frag} {mg : Str → Option Value} {base : Heap} (T : Tx K mg) (c_is_word : Kn P w K mg base "is_word" 3 ["thing"] sp_is_word) (c_are_joins : Kn P w K mg base "are_joins" 2 ["thing"] sp_are_joins) (f : Addr) (cdv : Value) (A : Around) (outer : List PySem.Env) (s : Shared) (H : Hp) (E : XK) (hr : RoomG 3 (A.deeper (envOfC "is_book" (defScope s_is_book) s.heap.objs.size f cdv))) :
    PSsD (dx0 (cxOf CX0 P w K mg base ["thing", "words", "joins", "word"] "is_book" (defScope s_is_book) f cdv A outer s H E).nox) (defBody s_is_book) b_is_book :=
  have hu := hr.units
  (pssd_cons (psd_if (ptd_w (pwd_or (ptd_not (ptd_val (pd_isi rfl T.n_isinstance rfl T.n_tuple (show bootBuiltins "tuple" = some (.type "tuple") by decide +kernel) (by decide) (pd_var 0 (pv 0))))) (pwd_or1 (ptd_cmp (opx_ne hu) mono_oF (pd_callB callx_len rfl T.n_len (show bootBuiltins "len" = some (.builtin "len") by decide +kernel) (pad_cons (pd_var 0 (pv 0)) pad_nil)) pd_int (nomark _))))) (pssd_one (psd_ret pd_bl)) pssd_nil)
      (pssd_cons (psd_asg (pd_var 0 (pv 0)) (pgd_tup rfl (pgs_n1 (pg_name (i := 1) sc_is_book.nd rfl (by first | exact Or.inl rfl | exact Or.inr rfl)) (pgs_n1 (pg_name (i := 2) sc_is_book.nd rfl (by first | exact Or.inl rfl | exact Or.inr rfl)) pgs_n0))))
      (pssd_cons (psd_if (ptd_w (pwd_or (ptd_not (ptd_val (pd_isi rfl T.n_isinstance rfl T.n_list (show bootBuiltins "list" = some (.type "list") by decide +kernel) (by decide) (pd_var 1 (pv 1))))) (pwd_or (ptd_not (ptd_val (pd_callB (callx_all rfl) rfl T.n_all (show bootBuiltins "all" = some (.builtin "all") by decide +kernel) (pad_cons (pd_lc (own := [("word", 3)]) (.one 3) rfl sc_is_book.nd (pid_any (pd_var 1 (pv 1))) (blkOk_by (N := N_is_book) (sc := defScope s_is_book) (own := [("word", 3)]) (by decide +kernel)) ⟨fun _ _ _ _ _ => (pg_name (i := 3) sc_is_book.nd rfl (by first | exact Or.inl rfl | exact Or.inr rfl)), fun _ _ _ _ _ => ptsd_nil, fun _ _ _ _ _ => (pd_kn c_is_word hr rfl (pad_cons (pd_var 3 (pv 3)) pad_nil))⟩ (by decide)) pad_nil)))) (pwd_or1 (ptd_not (ptd_val (pd_kn c_are_joins (hr.mono (by decide)) rfl (pad_cons (pd_var 2 (pv 2)) pad_nil)))))))) (pssd_one (psd_ret pd_bl)) pssd_nil)
      (pssd_cons (psd_if (ptd_not (ptd_val (pd_callB (callx_all rfl) rfl T.n_all (show bootBuiltins "all" = some (.builtin "all") by decide +kernel) (pad_cons (pd_lc (own := [("word", 3)]) (.one 3) rfl sc_is_book.nd (pid_any (pd_var 1 (pv 1))) (blkOk_by (N := N_is_book) (sc := defScope s_is_book) (own := [("word", 3)]) (by decide +kernel)) ⟨fun _ _ _ _ _ => (pg_name (i := 3) sc_is_book.nd rfl (by first | exact Or.inl rfl | exact Or.inr rfl)), fun _ _ _ _ _ => ptsd_nil, fun _ _ _ _ _ => (pd_cmp opx_lt mono_oF (pd_ix (pd_var 3 (pv 3)) pd_int (fun _ _ => by with_unfolding_all rfl)) (pd_bin opx_sub mono_oF (pd_callB callx_len rfl T.n_len (show bootBuiltins "len" = some (.builtin "len") by decide +kernel) (pad_cons (pd_var 2 (pv 2)) pad_nil)) pd_int) (nomark _))⟩ (by decide)) pad_nil)))) (pssd_one (psd_ret pd_bl)) pssd_nil)
      (pssd_one (psd_ret (pd_cmp (opx_eq hu) mono_oF (pd_callB callx_len rfl T.n_len (show bootBuiltins "len" = some (.builtin "len") by decide +kernel) (pad_cons (pd_dc (own := [("word", 3)]) (.one 3) rfl hu sc_is_book.nd (pid_any (pd_var 1 (pv 1))) (blkOk_by (N := N_is_book) (sc := defScope s_is_book) (own := [("word", 3)]) (by decide +kernel)) ⟨fun _ _ _ _ _ => (pg_name (i := 3) sc_is_book.nd rfl (by first | exact Or.inl rfl | exact Or.inr rfl)), fun _ _ _ _ _ => ptsd_nil, fun _ _ _ _ _ => (pd_slice (pd_var 3 (pv 3)) pod_none (pod_some pd_int)), fun _ _ _ _ _ => pd_bl⟩ (by decide)) pad_nil)) (pd_callB callx_len rfl T.n_len (show bootBuiltins "len" = some (.builtin "len") by decide +kernel) (pad_cons (pd_var 1 (pv 1)) pad_nil)) (nomark _))))))))
abbrev s_need_both : Stmt := top 20
theorem sc_need_both : FnScope ["book", "reading"] ["book", "reading"] (defScope s_need_both) := ⟨rfl, rfl, rfl, by decide +kernel, rfl, by decide +kernel, by decide +kernel⟩
theorem d_need_both {P : Program} {w : World} {K : PySem.W.Frag} {mg : Str → Option Value} {base : Heap} (T : Tx K mg) (c_is_book : Kn P w K mg base "is_book" 4 ["thing"] sp_is_book) (c_is_reading : Kn P w K mg base "is_reading" 2 ["thing"] sp_is_reading) (f : Addr) (cdv : Value) (A : Around) (outer : List PySem.Env) (s : Shared) (H : Hp) (E : XK) (hr : RoomG 4 (A.deeper (envOfC "need_both" (defScope s_need_both) s.heap.objs.size f cdv))) :
    PSsD (dx0 (cxOf CX0 P w K mg base ["book", "reading"] "need_both" (defScope s_need_both) f cdv A outer s H E).nox) (defBody s_need_both) b_need_both :=
  have hu := hr.units
  (pssd_cons (psd_if (ptd_not (ptd_val (pd_kn c_is_book hr rfl (pad_cons (pd_var 0 (pv 0)) pad_nil)))) (pssd_one psd_never) pssd_nil)
      (pssd_one (psd_if (ptd_not (ptd_val (pd_kn c_is_reading (hr.mono (by decide)) rfl (pad_cons (pd_var 1 (pv 1)) pad_nil)))) (pssd_one psd_never) pssd_nil)))
abbrev s_Order_split_ahead : Stmt := topM 28 1
theorem sc_Order_split_ahead : FnScope ["self", "place", "kind", "word", "rank", "rest", "cost", "many", "names", "words"] ["self", "place", "kind", "word", "rank"] (defScope s_Order_split_ahead) := ⟨rfl, rfl, rfl, by decide +kernel, rfl, by decide +kernel, by decide +kernel⟩
theorem d_Order_split_ahead {P : Program} {w : World} {K : PySem.W.Frag} {mg : Str → Option Value} {base : Heap} (T : Tx K mg) {k : Nat} {sp_Order_split_at : SpD} (c_Order_split_at : KnM P w K mg base CX0 "Order" "split_at" k ["self", "place", "kind", "rank"] sp_Order_split_at) (f : Addr) (cdv : Value) (A : Around) (outer : List PySem.Env) (s : Shared) (H : Hp) (E : XK) (hr : RoomG k (A.deeper (envOfC "Order.split_ahead" (defScope s_Order_split_ahead) s.heap.objs.size f cdv))) :
    PSsD (dx0 (cxOf CX0 P w K mg base ["self", "place", "kind", "word", "rank", "rest", "cost", "many", "names", "words"] "Order.split_ahead" (defScope s_Order_split_ahead) f cdv A outer s H E).nox) (defBody s_Order_split_ahead) (b_Order_split_ahead sp_Order_split_at) :=
  have hu := hr.units
  (pssd_cons (psd_set (i := 5) sc_Order_split_ahead.nd rfl (by first | exact Or.inl rfl | exact Or.inr rfl) (pd_methN c_Order_split_at hr (pd_var 0 (pv 0)) (pad_cons (pd_bin opx_add mono_oF (pd_var 1 (pv 1)) (pd_callB callx_len rfl T.n_len (show bootBuiltins "len" = some (.builtin "len") by decide +kernel) (pad_cons (pd_ix (pd_var 3 (pv 3)) pd_int (fun _ _ => by with_unfolding_all rfl)) pad_nil))) (pad_cons (pd_ix (pd_var 3 (pv 3)) pd_int (fun _ _ => by with_unfolding_all rfl)) (pad_cons (pd_var 4 (pv 4)) pad_nil))) _))
      (pssd_cons (psd_if (ptd_cmp opx_is mono_oF (pd_var 5 (pv 5)) pd_non (nomark _)) (pssd_one (psd_ret pd_non)) pssd_nil)
      (pssd_cons (psd_asg (pd_var 5 (pv 5)) (pgd_tup rfl (pgs_n1 (pg_name (i := 6) sc_Order_split_ahead.nd rfl (by first | exact Or.inl rfl | exact Or.inr rfl)) (pgs_n1 (pg_name (i := 7) sc_Order_split_ahead.nd rfl (by first | exact Or.inl rfl | exact Or.inr rfl)) (pgs_n1 (pg_name (i := 8) sc_Order_split_ahead.nd rfl (by first | exact Or.inl rfl | exact Or.inr rfl)) (pgs_n1 (pg_name (i := 9) sc_Order_split_ahead.nd rfl (by first | exact Or.inl rfl | exact Or.inr rfl)) pgs_n0))))))
      (pssd_cons (psd_aug (i := 6) sc_Order_split_ahead.nd rfl (by first | exact Or.inl rfl | exact Or.inr rfl) (pd_bin opx_add mono_oF (pd_ix (pd_ix (pd_fld T.f_Order_split_joins (pd_var 0 (pv 0))) (pd_var 2 (pv 2)) (fun _ _ => by with_unfolding_all rfl)) (pd_ix (pd_var 3 (pv 3)) pd_int (fun _ _ => by with_unfolding_all rfl)) (fun _ _ => by with_unfolding_all rfl)) (pd_ix (pd_var 3 (pv 3)) pd_int (fun _ _ => by with_unfolding_all rfl))) iopx_add mono_oF)
      (pssd_one (psd_ret (pd_tup (pad_cons (pd_var 6 (pv 6)) (pad_cons (pd_bin opx_add mono_oF (pd_var 7 (pv 7)) pd_int) (pad_cons (pd_bin opx_add mono_oF (pd_tup (pad_cons (pd_slice (pd_var 3 (pv 3)) pod_none (pod_some pd_int)) pad_nil)) (pd_var 8 (pv 8))) (pad_cons (pd_bin opx_add mono_oF (pd_tup (pad_cons (pd_var 3 (pv 3)) pad_nil)) (pd_var 9 (pv 9))) pad_nil)))))))))))
abbrev s_Order_split_begun : Stmt := topM 28 2
abbrev N_Order_split_begun : List Str := ["self", "place", "kind", "waiting", "word"]
theorem sc_Order_split_begun : FnScope ["self", "place", "kind", "waiting", "word"] ["self", "place", "kind"] (defScope s_Order_split_begun) := ⟨rfl, rfl, rfl, by decide +kernel, rfl, by decide +kernel, by decide +kernel⟩
theorem d_Order_split_begun {P : Program} {w : World} {K : PySem.W.Frag} {mg : Str → Option Value} {base : Heap} (T : Tx K mg) {k : Nat} {sp_Order_split_ahead : SpD} (c_Order_split_ahead : KnM P w K mg base CX0 "Order" "split_ahead" k ["self", "place", "kind", "word", "rank"] sp_Order_split_ahead) (f : Addr) (cdv : Value) (A : Around) (outer : List PySem.Env) (s : Shared) (H : Hp) (E : XK) (hr : RoomG k (A.deeper (envOfC "Order.split_begun" (defScope s_Order_split_begun) s.heap.objs.size f cdv))) :
    PSsD (dx0 (cxOf CX0 P w K mg base ["self", "place", "kind", "waiting", "word"] "Order.split_begun" (defScope s_Order_split_begun) f cdv A outer s H E).nox) (defBody s_Order_split_begun) (b_Order_split_begun sp_Order_split_ahead) :=
  have hu := hr.units
  (pssd_cons (psd_if (ptd_dnotin hu (pd_tup (pad_cons (pd_var 1 (pv 1)) (pad_cons (pd_var 2 (pv 2)) pad_nil))) (pd_fld T.f_Order_split_known (pd_var 0 (pv 0))) (by with_unfolding_all rfl)) (pssd_one (psd_if (ptd_cmp (opx_eq hu) mono_oF (pd_var 1 (pv 1)) (pd_fld T.f_Order_split_end (pd_var 0 (pv 0))) (nomark _)) (pssd_one (psd_dput hu (pd_fld T.f_Order_split_known (pd_var 0 (pv 0))) (pd_tup (pad_cons (pd_var 1 (pv 1)) (pad_cons (pd_var 2 (pv 2)) pad_nil))) (pd_tup (pad_cons (pd_new (pad_cons (pd_tup (pad_cons (pd_ix (pd_ix (pd_fld T.f_Order_split_joins (pd_var 0 (pv 0))) (pd_var 2 (pv 2)) (fun _ _ => by with_unfolding_all rfl)) (pd_neg pd_int) (fun _ _ => by with_unfolding_all rfl)) (pad_cons pd_int (pad_cons (pd_tup pad_nil) (pad_cons (pd_tup pad_nil) pad_nil))))) pad_nil)) (pad_cons (pd_new pad_nil) pad_nil))))) (pssd_cons (psd_setLcN (own := [("word", 4)]) (.one 4) (i := 3) rfl sc_Order_split_begun.nd rfl rfl (sw_true rfl rfl rfl (by decide +kernel)) (pid_any (pd_ix (pd_fld T.f_Order_split_words (pd_var 0 (pv 0))) (pd_var 1 (pv 1)) (fun _ _ => by with_unfolding_all rfl))) (blkOk_by (N := N_Order_split_begun) (sc := defScope s_Order_split_begun) (own := [("word", 4)]) (by decide +kernel)) ⟨fun _ _ _ _ _ => (pg_name (i := 4) sc_Order_split_begun.nd rfl (by first | exact Or.inl rfl | exact Or.inr rfl)), fun _ _ _ _ _ => ptsd_nil, fun _ _ _ _ _ => (pd_tup (pad_cons (pd_methN c_Order_split_ahead hr (pd_var 0 (pv 0)) (pad_cons (pd_var 1 (pv 1)) (pad_cons (pd_var 2 (pv 2)) (pad_cons (pd_var 4 (pv 4)) (pad_cons pd_int pad_nil)))) _) (pad_cons (pd_var 4 (pv 4)) (pad_cons pd_int pad_nil))))⟩ (by decide))
      (pssd_one (psd_dput hu (pd_fld T.f_Order_split_known (pd_var 0 (pv 0))) (pd_tup (pad_cons (pd_var 1 (pv 1)) (pad_cons (pd_var 2 (pv 2)) pad_nil))) (pd_tup (pad_cons (pd_new pad_nil) (pad_cons (pd_var 3 (pv 3)) pad_nil)))))))) pssd_nil)
      (pssd_one (psd_ret (pd_dget hu (pd_fld T.f_Order_split_known (pd_var 0 (pv 0))) (pd_tup (pad_cons (pd_var 1 (pv 1)) (pad_cons (pd_var 2 (pv 2)) pad_nil))) (fun _ _ => by with_unfolding_all rfl)))))
abbrev s_Order_split_at : Stmt := topM 28 3
abbrev N_Order_split_at : List Str := ["self", "place", "kind", "rank", "found", "waiting", "least", "at", "one", "word", "number", "following"]
theorem sc_Order_split_at : FnScope ["self", "place", "kind", "rank", "found", "waiting", "least", "at", "one", "word", "number", "following"] ["self", "place", "kind", "rank"] (defScope s_Order_split_at) := ⟨rfl, rfl, rfl, by decide +kernel, rfl, by decide +kernel, by decide +kernel⟩
theorem d_Order_split_at {P : Program} {w : World} {K : PySem.W.Frag} {mg : Str → Option Value} {base : Heap} (T : Tx K mg) {k : Nat} {sp_Order_split_begun : SpD} (c_Order_split_begun : KnM P w K mg base CX0 "Order" "split_begun" k ["self", "place", "kind"] sp_Order_split_begun) {sp_Order_split_ahead : SpD} (c_Order_split_ahead : KnM P w K mg base CX0 "Order" "split_ahead" k ["self", "place", "kind", "word", "rank"] sp_Order_split_ahead) (f : Addr) (cdv : Value) (A : Around) (outer : List PySem.Env) (s : Shared) (H : Hp) (E : XK) (hr : RoomG k (A.deeper (envOfC "Order.split_at" (defScope s_Order_split_at) s.heap.objs.size f cdv))) :
    PSsD (dx0 (cxOf CX0 P w K mg base ["self", "place", "kind", "rank", "found", "waiting", "least", "at", "one", "word", "number", "following"] "Order.split_at" (defScope s_Order_split_at) f cdv A outer s H E).nox) (defBody s_Order_split_at) (b_Order_split_at sp_Order_split_begun sp_Order_split_ahead) :=
  have hu := hr.units
  (pssd_cons (psd_asg (pd_methN c_Order_split_begun hr (pd_var 0 (pv 0)) (pad_cons (pd_var 1 (pv 1)) (pad_cons (pd_var 2 (pv 2)) pad_nil)) _) (pgd_tup rfl (pgs_n1 (pg_name (i := 4) sc_Order_split_at.nd rfl (by first | exact Or.inl rfl | exact Or.inr rfl)) (pgs_n1 (pg_name (i := 5) sc_Order_split_at.nd rfl (by first | exact Or.inl rfl | exact Or.inr rfl)) pgs_n0))))
      (pssd_cons (psd_while PassesOwn.never (ptd_w (pwd_and (ptd_cmp opx_le mono_oF (pd_callB callx_len rfl T.n_len (show bootBuiltins "len" = some (.builtin "len") by decide +kernel) (pad_cons (pd_var 4 (pv 4)) pad_nil)) (pd_var 3 (pv 3)) (nomark _)) (pwd_and1 (ptd_cmp (opx_ne hu) mono_oF (pd_var 5 (pv 5)) (pd_lst pad_nil) (nomark _))))) (pssd_cons (psd_set (i := 6) sc_Order_split_at.nd rfl (by first | exact Or.inl rfl | exact Or.inr rfl) (pd_callB (callx_minT rfl hu) rfl T.n_min (show bootBuiltins "min" = some (.builtin "min") by decide +kernel) (pad_cons (pd_lc (own := [("one", 8)]) (.one 8) rfl sc_Order_split_at.nd (pid_any (pd_var 5 (pv 5))) (blkOk_by (N := N_Order_split_at) (sc := defScope s_Order_split_at) (own := [("one", 8)]) (by decide +kernel)) ⟨fun _ _ _ _ _ => (pg_name (i := 8) sc_Order_split_at.nd rfl (by first | exact Or.inl rfl | exact Or.inr rfl)), fun _ _ _ _ _ => ptsd_nil, fun _ _ _ _ _ => (pd_slice (pd_ix (pd_var 8 (pv 8)) pd_int (fun _ _ => by with_unfolding_all rfl)) pod_none (pod_some pd_int))⟩ (by decide)) pad_nil)))
      (pssd_cons (psd_set (i := 7) sc_Order_split_at.nd rfl (by first | exact Or.inl rfl | exact Or.inr rfl) (pd_indexP PySem.F.slot_list_index PySem.F.type_list_index hr.u65 (pd_lc (own := [("one", 8)]) (.one 8) rfl sc_Order_split_at.nd (pid_any (pd_var 5 (pv 5))) (blkOk_by (N := N_Order_split_at) (sc := defScope s_Order_split_at) (own := [("one", 8)]) (by decide +kernel)) ⟨fun _ _ _ _ _ => (pg_name (i := 8) sc_Order_split_at.nd rfl (by first | exact Or.inl rfl | exact Or.inr rfl)), fun _ _ _ _ _ => ptsd_nil, fun _ _ _ _ _ => (pd_slice (pd_ix (pd_var 8 (pv 8)) pd_int (fun _ _ => by with_unfolding_all rfl)) pod_none (pod_some pd_int))⟩ (by decide)) (pad_cons (pd_var 6 (pv 6)) pad_nil)))
      (pssd_cons (psd_asg (pd_mt PySem.F.slot_list_pop PySem.F.type_list_pop mtx_pop (pd_var 5 (pv 5)) (pad_cons (pd_var 7 (pv 7)) pad_nil)) (pgd_tup rfl (pgs_n1 (pg_name (i := 8) sc_Order_split_at.nd rfl (by first | exact Or.inl rfl | exact Or.inr rfl)) (pgs_n1 (pg_name (i := 9) sc_Order_split_at.nd rfl (by first | exact Or.inl rfl | exact Or.inr rfl)) (pgs_n1 (pg_name (i := 10) sc_Order_split_at.nd rfl (by first | exact Or.inl rfl | exact Or.inr rfl)) pgs_n0)))))
      (pssd_cons (psd_expr (pd_mt PySem.F.slot_list_append PySem.F.type_list_append mtx_append (pd_var 4 (pv 4)) (pad_cons (pd_var 8 (pv 8)) pad_nil)))
      (pssd_cons (psd_set (i := 11) sc_Order_split_at.nd rfl (by first | exact Or.inl rfl | exact Or.inr rfl) (pd_methN c_Order_split_ahead hr (pd_var 0 (pv 0)) (pad_cons (pd_var 1 (pv 1)) (pad_cons (pd_var 2 (pv 2)) (pad_cons (pd_var 9 (pv 9)) (pad_cons (pd_bin opx_add mono_oF (pd_var 10 (pv 10)) pd_int) pad_nil)))) _))
      (pssd_one (psd_if (ptd_cmp opx_isNot mono_oF (pd_var 11 (pv 11)) pd_non (nomark _)) (pssd_one (psd_expr (pd_mt PySem.F.slot_list_append PySem.F.type_list_append mtx_append (pd_var 5 (pv 5)) (pad_cons (pd_tup (pad_cons (pd_var 11 (pv 11)) (pad_cons (pd_var 9 (pv 9)) (pad_cons (pd_bin opx_add mono_oF (pd_var 10 (pv 10)) pd_int) pad_nil)))) pad_nil)))) pssd_nil))))))))
      (pssd_one (psd_ret (pd_if (ptd_cmp opx_lt mono_oF (pd_var 3 (pv 3)) (pd_callB callx_len rfl T.n_len (show bootBuiltins "len" = some (.builtin "len") by decide +kernel) (pad_cons (pd_var 4 (pv 4)) pad_nil)) (nomark _)) (pd_ix (pd_var 4 (pv 4)) (pd_var 3 (pv 3)) (fun _ _ => by with_unfolding_all rfl)) pd_non)))))
abbrev s_standing : Stmt := top 27
abbrev N_standing : List Str := ["book", "reading", "words", "joins", "found", "place", "letter", "some", "word"]
theorem sc_standing : FnScope ["book", "reading", "words", "joins", "found", "place", "letter", "some", "word"] ["book", "reading"] (defScope s_standing) := ⟨rfl, rfl, rfl, by decide +kernel, rfl, by decide +kernel, by decide +kernel⟩
theorem d_standing {P : Program} {w : World} {K : PySem.W.Frag} {mg : Str → Option Value} {base : Heap} (T : Tx K mg) (f : Addr) (cdv : Value) (A : Around) (outer : List PySem.Env) (s : Shared) (H : Hp) (E : XK) (hr : RoomG 0 (A.deeper (envOfC "standing" (defScope s_standing) s.heap.objs.size f cdv))) :
    PSsD (dx0 (cxOf CX0 P w K mg base ["book", "reading", "words", "joins", "found", "place", "letter", "some", "word"] "standing" (defScope s_standing) f cdv A outer s H E).nox) (defBody s_standing) b_standing :=
  have hu := hr.units
  (pssd_cons (psd_asg (pd_var 0 (pv 0)) (pgd_tup rfl (pgs_n1 (pg_name (i := 2) sc_standing.nd rfl (by first | exact Or.inl rfl | exact Or.inr rfl)) (pgs_n1 (pg_name (i := 3) sc_standing.nd rfl (by first | exact Or.inl rfl | exact Or.inr rfl)) pgs_n0))))
      (pssd_cons (psd_set (i := 4) sc_standing.nd rfl (by first | exact Or.inl rfl | exact Or.inr rfl) (pd_new pad_nil))
      (pssd_cons (psd_for PassesOwn.never rfl (pid_enum rfl T.n_enumerate (pad_cons (pd_var 1 (pv 1)) pad_nil)) (pgd_tup rfl (pgs_n1 (pg_name (i := 5) sc_standing.nd rfl (by first | exact Or.inl rfl | exact Or.inr rfl)) (pgs_n1 (pg_name (i := 6) sc_standing.nd rfl (by first | exact Or.inl rfl | exact Or.inr rfl)) pgs_n0))) (pssd_cons (psd_setLc (own := [("word", 8)]) (.one 8) (i := 7) rfl sc_standing.nd rfl rfl (sw_true rfl rfl rfl (by decide +kernel)) (pid_any (pd_var 2 (pv 2))) (blkOk_by (N := N_standing) (sc := defScope s_standing) (own := [("word", 8)]) (by decide +kernel)) ⟨fun _ _ _ _ _ => (pg_name (i := 8) sc_standing.nd rfl (by first | exact Or.inl rfl | exact Or.inr rfl)), fun _ _ _ _ _ => (ptsd_one (ptd_cmp (opx_eq hu) mono_oF (pd_slice (pd_var 1 (pv 1)) (pod_some (pd_var 5 (pv 5))) (pod_some (pd_bin opx_add mono_oF (pd_var 5 (pv 5)) (pd_callB callx_len rfl T.n_len (show bootBuiltins "len" = some (.builtin "len") by decide +kernel) (pad_cons (pd_ix (pd_var 8 (pv 8)) pd_int (fun _ _ => by with_unfolding_all rfl)) pad_nil))))) (pd_ix (pd_var 8 (pv 8)) pd_int (fun _ _ => by with_unfolding_all rfl)) (nomark _))), fun _ _ _ _ _ => (pd_var 8 (pv 8))⟩ (by decide))
      (pssd_one (psd_expr (pd_mt PySem.F.slot_list_append PySem.F.type_list_append mtx_append (pd_var 4 (pv 4)) (pad_cons (pd_bin opx_add mono_oF (pd_lst (pad_cons (pd_tup (pad_cons (pd_var 6 (pv 6)) (pad_cons (pd_var 6 (pv 6)) (pad_cons (pd_gintE rfl T.c_PLAIN) (pad_cons (pd_bin opx_sub mono_oF (pd_callB callx_len rfl T.n_len (show bootBuiltins "len" = some (.builtin "len") by decide +kernel) (pad_cons (pd_var 3 (pv 3)) pad_nil)) pd_int) pad_nil))))) pad_nil)) (pd_var 7 (pv 7))) pad_nil))))))
      (pssd_one (psd_ret (pd_frz (pd_var 4 (pv 4))))))))
abbrev s_Order___init__ : Stmt := topM 28 0
theorem sc_Order___init__ : FnScope ["self", "book", "reading"] ["self", "book", "reading"] (defScope s_Order___init__) := ⟨rfl, rfl, rfl, by decide +kernel, rfl, by decide +kernel, by decide +kernel⟩
theorem d_Order___init__ {P : Program} {w : World} {K : PySem.W.Frag} {mg : Str → Option Value} {base : Heap} (T : Tx K mg) (c_standing : Kn P w K mg base "standing" 1 ["book", "reading"] sp_standing) (f : Addr) (cdv : Value) (A : Around) (outer : List PySem.Env) (s : Shared) (H : Hp) (E : XK) (hr : RoomG 1 (A.deeper (envOfC "Order.__init__" (defScope s_Order___init__) s.heap.objs.size f cdv))) :
    PSsD (dx0 (cxOf CX0 P w K mg base ["self", "book", "reading"] "Order.__init__" (defScope s_Order___init__) f cdv A outer s H E).nox) (defBody s_Order___init__) b_Order___init__ :=
  have hu := hr.units
  (pssd_cons (psd_fld T.f_Order_split_joins (pd_var 0 (pv 0)) (pd_ix (pd_var 1 (pv 1)) pd_int (fun _ _ => by with_unfolding_all rfl)))
      (pssd_cons (psd_fld T.f_Order_split_end (pd_var 0 (pv 0)) (pd_callB callx_len rfl T.n_len (show bootBuiltins "len" = some (.builtin "len") by decide +kernel) (pad_cons (pd_var 2 (pv 2)) pad_nil)))
      (pssd_cons (psd_fld T.f_Order_split_words (pd_var 0 (pv 0)) (pd_kn c_standing hr rfl (pad_cons (pd_var 1 (pv 1)) (pad_cons (pd_var 2 (pv 2)) pad_nil))))
      (pssd_one (psd_fld T.f_Order_split_known (pd_var 0 (pv 0)) pd_dnewT)))))
abbrev s_kind_behind : Stmt := top 21
theorem sc_kind_behind : FnScope ["book", "behind", "edge"] ["book", "behind"] (defScope s_kind_behind) := ⟨rfl, rfl, rfl, by decide +kernel, rfl, by decide +kernel, by decide +kernel⟩
theorem d_kind_behind {P : Program} {w : World} {K : PySem.W.Frag} {mg : Str → Option Value} {base : Heap} (T : Tx K mg) (c_is_count : Kn P w K mg base "is_count" 1 ["thing"] sp_is_count) (f : Addr) (cdv : Value) (A : Around) (outer : List PySem.Env) (s : Shared) (H : Hp) (E : XK) (hr : RoomG 1 (A.deeper (envOfC "kind_behind" (defScope s_kind_behind) s.heap.objs.size f cdv))) :
    PSsD (dx0 (cxOf CX0 P w K mg base ["book", "behind", "edge"] "kind_behind" (defScope s_kind_behind) f cdv A outer s H E).nox) (defBody s_kind_behind) b_kind_behind :=
  have hu := hr.units
  (pssd_cons (psd_set (i := 2) sc_kind_behind.nd rfl (by first | exact Or.inl rfl | exact Or.inr rfl) (pd_bin opx_sub mono_oF (pd_callB callx_len rfl T.n_len (show bootBuiltins "len" = some (.builtin "len") by decide +kernel) (pad_cons (pd_ix (pd_var 0 (pv 0)) pd_int (fun _ _ => by with_unfolding_all rfl)) pad_nil)) pd_int))
      (pssd_cons (psd_if (ptd_cmp opx_is mono_oF (pd_var 1 (pv 1)) pd_non (nomark _)) (pssd_one (psd_ret (pd_var 2 (pv 2)))) pssd_nil)
      (pssd_cons (psd_if (ptd_w (pwd_or (ptd_not (ptd_val (pd_kn c_is_count hr rfl (pad_cons (pd_var 1 (pv 1)) pad_nil)))) (pwd_or1 (ptd_cmp opx_gtB mono_oF (pd_var 1 (pv 1)) (pd_var 2 (pv 2)) (nomark _))))) (pssd_one psd_never) pssd_nil)
      (pssd_one (psd_ret (pd_var 1 (pv 1)))))))
abbrev s_cheapest : Stmt := top 29
theorem sc_cheapest : FnScope ["book", "reading", "behind"] ["book", "reading", "behind"] (defScope s_cheapest) := ⟨rfl, rfl, rfl, by decide +kernel, rfl, by decide +kernel, by decide +kernel⟩
theorem d_cheapest {P : Program} {w : World} {K : PySem.W.Frag} {mg : Str → Option Value} {base : Heap} (T : Tx K mg) (c_need_both : Kn P w K mg base "need_both" 5 ["book", "reading"] sp_need_both) (c_Order_split_at : KnM P w K mg base CX0 "Order" "split_at" 127 ["self", "place", "kind", "rank"] sp_Order_split_at) (c_Order___init__ : KnI P w K mg base "Order" 2 ["self", "book", "reading"] sp_Order___init__) (c_kind_behind : Kn P w K mg base "kind_behind" 2 ["book", "behind"] sp_kind_behind) (f : Addr) (cdv : Value) (A : Around) (outer : List PySem.Env) (s : Shared) (H : Hp) (E : XK) (hr : RoomG 127 (A.deeper (envOfC "cheapest" (defScope s_cheapest) s.heap.objs.size f cdv))) :
    PSsD (dx0 (cxOf CX0 P w K mg base ["book", "reading", "behind"] "cheapest" (defScope s_cheapest) f cdv A outer s H E).nox) (defBody s_cheapest) b_cheapest :=
  have hu := hr.units
  (pssd_cons (psd_expr (pd_kn c_need_both (hr.mono (by decide)) rfl (pad_cons (pd_var 0 (pv 0)) (pad_cons (pd_var 1 (pv 1)) pad_nil))))
      (pssd_one (psd_ret (pd_callTy callx_list rfl T.n_list (show bootBuiltins "list" = some (.type "list") by decide +kernel) (pad_cons (pd_ix (pd_methN c_Order_split_at hr (pd_makeA c_Order___init__ (hr.mono (by decide)) rfl (pad_cons (pd_var 0 (pv 0)) (pad_cons (pd_var 1 (pv 1)) pad_nil))) (pad_cons pd_int (pad_cons (pd_kn c_kind_behind (hr.mono (by decide)) rfl (pad_cons (pd_var 0 (pv 0)) (pad_cons (pd_var 2 (pv 2)) pad_nil))) (pad_cons pd_int pad_nil))) _) pd_int (fun _ _ => by with_unfolding_all rfl)) pad_nil)))))
abbrev s_is_raw : Stmt := top 22
theorem sc_is_raw : FnScope ["book", "thing"] ["book", "thing"] (defScope s_is_raw) := ⟨rfl, rfl, rfl, by decide +kernel, rfl, by decide +kernel, by decide +kernel⟩
theorem d_is_raw {P : Program} {w : World} {K : PySem.W.Frag} {mg : Str → Option Value} {base : Heap} (T : Tx K mg) (c_is_small : Kn P w K mg base "is_small" 1 ["thing"] sp_is_small) (c_is_count : Kn P w K mg base "is_count" 1 ["thing"] sp_is_count) (f : Addr) (cdv : Value) (A : Around) (outer : List PySem.Env) (s : Shared) (H : Hp) (E : XK) (hr : RoomG 1 (A.deeper (envOfC "is_raw" (defScope s_is_raw) s.heap.objs.size f cdv))) :
    PSsD (dx0 (cxOf CX0 P w K mg base ["book", "thing"] "is_raw" (defScope s_is_raw) f cdv A outer s H E).nox) (defBody s_is_raw) b_is_raw :=
  have hu := hr.units
  (pssd_cons (psd_if (ptd_w (pwd_or (ptd_not (ptd_val (pd_isi rfl T.n_isinstance rfl T.n_tuple (show bootBuiltins "tuple" = some (.type "tuple") by decide +kernel) (by decide) (pd_var 1 (pv 1))))) (pwd_or (ptd_cmp (opx_ne hu) mono_oF (pd_callB callx_len rfl T.n_len (show bootBuiltins "len" = some (.builtin "len") by decide +kernel) (pad_cons (pd_var 1 (pv 1)) pad_nil)) pd_int (nomark _)) (pwd_or (ptd_not (ptd_val (pd_kn c_is_small hr rfl (pad_cons (pd_ix (pd_var 1 (pv 1)) pd_int (fun _ _ => by with_unfolding_all rfl)) pad_nil)))) (pwd_or1 (ptd_cmp (opx_ne hu) mono_oF (pd_callB callx_len rfl T.n_len (show bootBuiltins "len" = some (.builtin "len") by decide +kernel) (pad_cons (pd_ix (pd_var 1 (pv 1)) pd_int (fun _ _ => by with_unfolding_all rfl)) pad_nil)) pd_int (nomark _))))))) (pssd_one (psd_ret pd_bl)) pssd_nil)
      (pssd_cons (psd_if (ptd_w (pwd_or (ptd_not (ptd_val (pd_kn c_is_small hr rfl (pad_cons (pd_ix (pd_var 1 (pv 1)) pd_int (fun _ _ => by with_unfolding_all rfl)) pad_nil)))) (pwd_or1 (ptd_cmp (opx_ne hu) mono_oF (pd_ix (pd_var 1 (pv 1)) pd_int (fun _ _ => by with_unfolding_all rfl)) (pd_ix (pd_var 1 (pv 1)) pd_int (fun _ _ => by with_unfolding_all rfl)) (nomark _))))) (pssd_one (psd_ret pd_bl)) pssd_nil)
      (pssd_one (psd_ret (pd_and (pd_kn c_is_count hr rfl (pad_cons (pd_ix (pd_var 1 (pv 1)) pd_int (fun _ _ => by with_unfolding_all rfl)) pad_nil)) (pd_and (pd_cmp (opx_eq hu) mono_oF (pd_ix (pd_var 1 (pv 1)) pd_int (fun _ _ => by with_unfolding_all rfl)) (pd_gintE rfl T.c_PLAIN) (nomark _)) (pd_and (pd_kn c_is_count hr rfl (pad_cons (pd_ix (pd_var 1 (pv 1)) pd_int (fun _ _ => by with_unfolding_all rfl)) pad_nil)) (pd_one (pd_cmp (opx_eq hu) mono_oF (pd_ix (pd_var 1 (pv 1)) pd_int (fun _ _ => by with_unfolding_all rfl)) (pd_bin opx_sub mono_oF (pd_callB callx_len rfl T.n_len (show bootBuiltins "len" = some (.builtin "len") by decide +kernel) (pad_cons (pd_ix (pd_var 0 (pv 0)) pd_int (fun _ _ => by with_unfolding_all rfl)) pad_nil)) pd_int) (nomark _))))))))))
abbrev s_parts_to : Stmt := top 23
abbrev N_parts_to : List Str := ["book", "reading", "thing", "one"]
theorem sc_parts_to : FnScope ["book", "reading", "thing", "one"] ["book", "reading", "thing"] (defScope s_parts_to) := ⟨rfl, rfl, rfl, by decide +kernel, rfl, by decide +kernel, by decide +kernel⟩
theorem d_parts_to {P : Program} {w : World} {K : PySem.W.Frag} {mg : Str → Option Value} {base : Heap} (T : Tx K mg) (c_is_raw : Kn P w K mg base "is_raw" 2 ["book", "thing"] sp_is_raw) (c_is_word : Kn P w K mg base "is_word" 3 ["thing"] sp_is_word) (f : Addr) (cdv : Value) (A : Around) (outer : List PySem.Env) (s : Shared) (H : Hp) (E : XK) (hr : RoomG 3 (A.deeper (envOfC "parts_to" (defScope s_parts_to) s.heap.objs.size f cdv))) :
    PSsD (dx0 (cxOf CX0 P w K mg base ["book", "reading", "thing", "one"] "parts_to" (defScope s_parts_to) f cdv A outer s H E).nox) (defBody s_parts_to) b_parts_to :=
  have hu := hr.units
  (pssd_cons (psd_if (ptd_w (pwd_or (ptd_not (ptd_val (pd_isi rfl T.n_isinstance rfl T.n_list (show bootBuiltins "list" = some (.type "list") by decide +kernel) (by decide) (pd_var 2 (pv 2))))) (pwd_or1 (ptd_cmp (opx_eq hu) mono_oF (pd_var 2 (pv 2)) (pd_lst pad_nil) (nomark _))))) (pssd_one (psd_ret pd_bl)) pssd_nil)
      (pssd_cons (psd_for PassesOwn.never rfl (pid_any (pd_var 2 (pv 2))) (pgd_name (i := 3) (pg_name (i := 3) sc_parts_to.nd rfl (by first | exact Or.inl rfl | exact Or.inr rfl))) (pssd_one (psd_if (ptd_w (pwd_and (ptd_not (ptd_val (pd_kn c_is_raw (hr.mono (by decide)) rfl (pad_cons (pd_var 0 (pv 0)) (pad_cons (pd_var 3 (pv 3)) pad_nil))))) (pwd_and1 (ptd_w (pwd_or (ptd_not (ptd_val (pd_kn c_is_word hr rfl (pad_cons (pd_var 3 (pv 3)) pad_nil)))) (pwd_or1 (ptd_cmp (opx_notInA hu) (mono_oOr mono_oInS mono_oIn) (pd_var 3 (pv 3)) (pd_ix (pd_var 0 (pv 0)) pd_int (fun _ _ => by with_unfolding_all rfl)) (by with_unfolding_all rfl)))))))) (pssd_one (psd_ret pd_bl)) pssd_nil)))
      (pssd_one (psd_ret (pd_cmp (opx_eq hu) mono_oF (pd_join pd_str (pd_lc (own := [("one", 3)]) (.one 3) rfl sc_parts_to.nd (pid_any (pd_var 2 (pv 2))) (blkOk_by (N := N_parts_to) (sc := defScope s_parts_to) (own := [("one", 3)]) (by decide +kernel)) ⟨fun _ _ _ _ _ => (pg_name (i := 3) sc_parts_to.nd rfl (by first | exact Or.inl rfl | exact Or.inr rfl)), fun _ _ _ _ _ => ptsd_nil, fun _ _ _ _ _ => (pd_ix (pd_var 3 (pv 3)) pd_int (fun _ _ => by with_unfolding_all rfl))⟩ (by decide))) (pd_var 1 (pv 1)) (nomark _))))))
abbrev s_is_split : Stmt := top 24
theorem sc_is_split : FnScope ["book", "reading", "thing"] ["book", "reading", "thing"] (defScope s_is_split) := ⟨rfl, rfl, rfl, by decide +kernel, rfl, by decide +kernel, by decide +kernel⟩
theorem d_is_split {P : Program} {w : World} {K : PySem.W.Frag} {mg : Str → Option Value} {base : Heap} (T : Tx K mg) (c_need_both : Kn P w K mg base "need_both" 5 ["book", "reading"] sp_need_both) (c_parts_to : Kn P w K mg base "parts_to" 4 ["book", "reading", "thing"] sp_parts_to) (f : Addr) (cdv : Value) (A : Around) (outer : List PySem.Env) (s : Shared) (H : Hp) (E : XK) (hr : RoomG 5 (A.deeper (envOfC "is_split" (defScope s_is_split) s.heap.objs.size f cdv))) :
    PSsD (dx0 (cxOf CX0 P w K mg base ["book", "reading", "thing"] "is_split" (defScope s_is_split) f cdv A outer s H E).nox) (defBody s_is_split) b_is_split :=
  have hu := hr.units
  (pssd_cons (psd_expr (pd_kn c_need_both hr rfl (pad_cons (pd_var 0 (pv 0)) (pad_cons (pd_var 1 (pv 1)) pad_nil))))
      (pssd_one (psd_ret (pd_kn c_parts_to (hr.mono (by decide)) rfl (pad_cons (pd_var 0 (pv 0)) (pad_cons (pd_var 1 (pv 1)) (pad_cons (pd_var 2 (pv 2)) pad_nil)))))))
abbrev s_text_made : Stmt := top 25
abbrev N_text_made : List Str := ["thing", "one"]
theorem sc_text_made : FnScope ["thing", "one"] ["thing"] (defScope s_text_made) := ⟨rfl, rfl, rfl, by decide +kernel, rfl, by decide +kernel, by decide +kernel⟩
theorem d_text_made {P : Program} {w : World} {K : PySem.W.Frag} {mg : Str → Option Value} {base : Heap} (T : Tx K mg) (f : Addr) (cdv : Value) (A : Around) (outer : List PySem.Env) (s : Shared) (H : Hp) (E : XK) (hr : RoomG 0 (A.deeper (envOfC "text_made" (defScope s_text_made) s.heap.objs.size f cdv))) :
    PSsD (dx0 (cxOf CX0 P w K mg base ["thing", "one"] "text_made" (defScope s_text_made) f cdv A outer s H E).nox) (defBody s_text_made) b_text_made :=
  have hu := hr.units
  (pssd_cons (psd_if (ptd_not (ptd_val (pd_isi rfl T.n_isinstance rfl T.n_list (show bootBuiltins "list" = some (.type "list") by decide +kernel) (by decide) (pd_var 0 (pv 0))))) (pssd_one (psd_ret pd_str)) pssd_nil)
      (pssd_cons (psd_if (ptd_not (ptd_val (pd_callB (callx_all rfl) rfl T.n_all (show bootBuiltins "all" = some (.builtin "all") by decide +kernel) (pad_cons (pd_lc (own := [("one", 1)]) (.one 1) rfl sc_text_made.nd (pid_any (pd_var 0 (pv 0))) (blkOk_by (N := N_text_made) (sc := defScope s_text_made) (own := [("one", 1)]) (by decide +kernel)) ⟨fun _ _ _ _ _ => (pg_name (i := 1) sc_text_made.nd rfl (by first | exact Or.inl rfl | exact Or.inr rfl)), fun _ _ _ _ _ => ptsd_nil, fun _ _ _ _ _ => (pd_and (pd_isi rfl T.n_isinstance rfl T.n_tuple (show bootBuiltins "tuple" = some (.type "tuple") by decide +kernel) (by decide) (pd_var 1 (pv 1))) (pd_and (pd_cmp (opx_eq hu) mono_oF (pd_callB callx_len rfl T.n_len (show bootBuiltins "len" = some (.builtin "len") by decide +kernel) (pad_cons (pd_var 1 (pv 1)) pad_nil)) pd_int (nomark _)) (pd_one (pd_isi rfl T.n_isinstance rfl T.n_str (show bootBuiltins "str" = some (.type "str") by decide +kernel) (by decide) (pd_ix (pd_var 1 (pv 1)) pd_int (fun _ _ => by with_unfolding_all rfl))))))⟩ (by decide)) pad_nil)))) (pssd_one (psd_ret pd_str)) pssd_nil)
      (pssd_one (psd_ret (pd_join pd_str (pd_lc (own := [("one", 1)]) (.one 1) rfl sc_text_made.nd (pid_any (pd_var 0 (pv 0))) (blkOk_by (N := N_text_made) (sc := defScope s_text_made) (own := [("one", 1)]) (by decide +kernel)) ⟨fun _ _ _ _ _ => (pg_name (i := 1) sc_text_made.nd rfl (by first | exact Or.inl rfl | exact Or.inr rfl)), fun _ _ _ _ _ => ptsd_nil, fun _ _ _ _ _ => (pd_ix (pd_var 1 (pv 1)) pd_int (fun _ _ => by with_unfolding_all rfl))⟩ (by decide)))))))
abbrev s_cost_of : Stmt := top 26
theorem sc_cost_of : FnScope ["book", "split", "behind", "reading", "kind", "found", "writing", "cost", "own"] ["book", "split", "behind"] (defScope s_cost_of) := ⟨rfl, rfl, rfl, by decide +kernel, rfl, by decide +kernel, by decide +kernel⟩
theorem d_cost_of {P : Program} {w : World} {K : PySem.W.Frag} {mg : Str → Option Value} {base : Heap} (T : Tx K mg) (c_is_book : Kn P w K mg base "is_book" 4 ["thing"] sp_is_book) (c_text_made : Kn P w K mg base "text_made" 1 ["thing"] sp_text_made) (c_parts_to : Kn P w K mg base "parts_to" 4 ["book", "reading", "thing"] sp_parts_to) (c_kind_behind : Kn P w K mg base "kind_behind" 2 ["book", "behind"] sp_kind_behind) (f : Addr) (cdv : Value) (A : Around) (outer : List PySem.Env) (s : Shared) (H : Hp) (E : XK) (hr : RoomG 4 (A.deeper (envOfC "cost_of" (defScope s_cost_of) s.heap.objs.size f cdv))) :
    PSsD (dx0 (cxOf CX0 P w K mg base ["book", "split", "behind", "reading", "kind", "found", "writing", "cost", "own"] "cost_of" (defScope s_cost_of) f cdv A outer s H E).nox) (defBody s_cost_of) b_cost_of :=
  have hu := hr.units
  (pssd_cons (psd_if (ptd_not (ptd_val (pd_kn c_is_book hr rfl (pad_cons (pd_var 0 (pv 0)) pad_nil)))) (pssd_one psd_never) pssd_nil)
      (pssd_cons (psd_set (i := 3) sc_cost_of.nd rfl (by first | exact Or.inl rfl | exact Or.inr rfl) (pd_kn c_text_made (hr.mono (by decide)) rfl (pad_cons (pd_var 1 (pv 1)) pad_nil)))
      (pssd_cons (psd_if (ptd_w (pwd_or (ptd_cmp opx_gtB mono_oF (pd_callB callx_len rfl T.n_len (show bootBuiltins "len" = some (.builtin "len") by decide +kernel) (pad_cons (pd_var 3 (pv 3)) pad_nil)) (pd_gintE rfl T.c_MOST) (nomark _)) (pwd_or1 (ptd_not (ptd_val (pd_kn c_parts_to hr rfl (pad_cons (pd_var 0 (pv 0)) (pad_cons (pd_var 3 (pv 3)) (pad_cons (pd_var 1 (pv 1)) pad_nil))))))))) (pssd_one psd_never) pssd_nil)
      (pssd_cons (psd_set (i := 4) sc_cost_of.nd rfl (by first | exact Or.inl rfl | exact Or.inr rfl) (pd_kn c_kind_behind (hr.mono (by decide)) rfl (pad_cons (pd_var 0 (pv 0)) (pad_cons (pd_var 2 (pv 2)) pad_nil))))
      (pssd_cons (psd_set (i := 5) sc_cost_of.nd rfl (by first | exact Or.inl rfl | exact Or.inr rfl) pd_int)
      (pssd_cons (psd_for PassesOwn.never rfl (pid_any (pd_var 1 (pv 1))) (pgd_tup rfl (pgs_n1 (pg_name (i := 3) sc_cost_of.nd rfl (by first | exact Or.inl rfl | exact Or.inr rfl)) (pgs_n1 (pg_name (i := 6) sc_cost_of.nd rfl (by first | exact Or.inl rfl | exact Or.inr rfl)) (pgs_n1 (pg_name (i := 7) sc_cost_of.nd rfl (by first | exact Or.inl rfl | exact Or.inr rfl)) (pgs_n1 (pg_name (i := 8) sc_cost_of.nd rfl (by first | exact Or.inl rfl | exact Or.inr rfl)) pgs_n0))))) (pssd_cons (psd_aug (i := 5) sc_cost_of.nd rfl (by first | exact Or.inl rfl | exact Or.inr rfl) (pd_bin opx_add mono_oF (pd_ix (pd_ix (pd_ix (pd_var 0 (pv 0)) pd_int (fun _ _ => by with_unfolding_all rfl)) (pd_var 4 (pv 4)) (fun _ _ => by with_unfolding_all rfl)) (pd_var 8 (pv 8)) (fun _ _ => by with_unfolding_all rfl)) (pd_var 7 (pv 7))) iopx_add mono_oF)
      (pssd_one (psd_set (i := 4) sc_cost_of.nd rfl (by first | exact Or.inl rfl | exact Or.inr rfl) (pd_var 8 (pv 8))))))
      (pssd_one (psd_ret (pd_bin opx_add mono_oF (pd_var 5 (pv 5)) (pd_ix (pd_ix (pd_ix (pd_var 0 (pv 0)) pd_int (fun _ _ => by with_unfolding_all rfl)) (pd_var 4 (pv 4)) (fun _ _ => by with_unfolding_all rfl)) (pd_neg pd_int) (fun _ _ => by with_unfolding_all rfl)))))))))))
abbrev s__law_at : Stmt := top 37
abbrev N__law_at : List Str := ["book", "reading", "place", "found", "word"]
theorem sc__law_at : FnScope ["book", "reading", "place", "found", "word"] ["book", "reading", "place"] (defScope s__law_at) := ⟨rfl, rfl, rfl, by decide +kernel, rfl, by decide +kernel, by decide +kernel⟩
theorem d__law_at {P : Program} {w : World} {K : PySem.W.Frag} {mg : Str → Option Value} {base : Heap} (T : Tx K mg) (f : Addr) (cdv : Value) (A : Around) (outer : List PySem.Env) (s : Shared) (H : Hp) (E : XK) (hr : RoomG 0 (A.deeper (envOfC "_law_at" (defScope s__law_at) s.heap.objs.size f cdv))) :
    PSsD (dx0 (cxOf CX0 P w K mg base ["book", "reading", "place", "found", "word"] "_law_at" (defScope s__law_at) f cdv A outer s H E).nox) (defBody s__law_at) b__law_at :=
  have hu := hr.units
  (pssd_cons (psd_setLc (own := [("word", 4)]) (.one 4) (i := 3) rfl sc__law_at.nd rfl rfl (sw_true rfl rfl rfl (by decide +kernel)) (pid_any (pd_ix (pd_var 0 (pv 0)) pd_int (fun _ _ => by with_unfolding_all rfl))) (blkOk_by (N := N__law_at) (sc := defScope s__law_at) (own := [("word", 4)]) (by decide +kernel)) ⟨fun _ _ _ _ _ => (pg_name (i := 4) sc__law_at.nd rfl (by first | exact Or.inl rfl | exact Or.inr rfl)), fun _ _ _ _ _ => (ptsd_one (ptd_cmp (opx_eq hu) mono_oF (pd_slice (pd_var 1 (pv 1)) (pod_some (pd_var 2 (pv 2))) (pod_some (pd_bin opx_add mono_oF (pd_var 2 (pv 2)) (pd_callB callx_len rfl T.n_len (show bootBuiltins "len" = some (.builtin "len") by decide +kernel) (pad_cons (pd_ix (pd_var 4 (pv 4)) pd_int (fun _ _ => by with_unfolding_all rfl)) pad_nil))))) (pd_ix (pd_var 4 (pv 4)) pd_int (fun _ _ => by with_unfolding_all rfl)) (nomark _))), fun _ _ _ _ _ => (pd_var 4 (pv 4))⟩ (by decide))
      (pssd_one (psd_ret (pd_bin opx_add mono_oF (pd_var 3 (pv 3)) (pd_lst (pad_cons (pd_tup (pad_cons (pd_ix (pd_var 1 (pv 1)) (pd_var 2 (pv 2)) (fun _ _ => by with_unfolding_all rfl)) (pad_cons (pd_ix (pd_var 1 (pv 1)) (pd_var 2 (pv 2)) (fun _ _ => by with_unfolding_all rfl)) (pad_cons pd_int (pad_cons (pd_bin opx_sub mono_oF (pd_callB callx_len rfl T.n_len (show bootBuiltins "len" = some (.builtin "len") by decide +kernel) (pad_cons (pd_ix (pd_var 0 (pv 0)) pd_int (fun _ _ => by with_unfolding_all rfl)) pad_nil)) pd_int) pad_nil))))) pad_nil))))))
abbrev s__law_front : Stmt := top 40
abbrev N__law_front : List Str := ["book", "reading", "joins", "come", "place", "kind", "cost", "ways", "word", "row", "here", "old", "letter"]
theorem sc__law_front : FnScope ["book", "reading", "joins", "come", "place", "kind", "cost", "ways", "word", "row", "here", "old", "letter"] ["book", "reading"] (defScope s__law_front) := ⟨rfl, rfl, rfl, by decide +kernel, rfl, by decide +kernel, by decide +kernel⟩
theorem d__law_front {P : Program} {w : World} {K : PySem.W.Frag} {mg : Str → Option Value} {base : Heap} (T : Tx K mg) (c__law_at : Kn P w K mg base "_law_at" 1 ["book", "reading", "place"] sp__law_at) (f : Addr) (cdv : Value) (A : Around) (outer : List PySem.Env) (s : Shared) (H : Hp) (E : XK) (hr : RoomG 1 (A.deeper (envOfC "_law_front" (defScope s__law_front) s.heap.objs.size f cdv))) :
    PSsD (dx0 (cxOf CX0 P w K mg base ["book", "reading", "joins", "come", "place", "kind", "cost", "ways", "word", "row", "here", "old", "letter"] "_law_front" (defScope s__law_front) f cdv A outer s H E).nox) (defBody s__law_front) b__law_front :=
  have hu := hr.units
  (pssd_cons (psd_set (i := 2) sc__law_front.nd rfl (by first | exact Or.inl rfl | exact Or.inr rfl) (pd_ix (pd_var 0 (pv 0)) pd_int (fun _ _ => by with_unfolding_all rfl)))
      (pssd_cons (psd_set (i := 3) sc__law_front.nd rfl (by first | exact Or.inl rfl | exact Or.inr rfl) (pd_bin opx_add mono_oF (pd_lst (pad_cons (pd_disp1 (pd_bin opx_sub mono_oF (pd_callB callx_len rfl T.n_len (show bootBuiltins "len" = some (.builtin "len") by decide +kernel) (pad_cons (pd_var 2 (pv 2)) pad_nil)) pd_int) (pd_tup (pad_cons pd_int (pad_cons pd_int pad_nil)))) pad_nil)) (pd_lc (own := [("letter", 12)]) (.one 12) rfl sc__law_front.nd (pid_any (pd_var 1 (pv 1))) (blkOk_by (N := N__law_front) (sc := defScope s__law_front) (own := [("letter", 12)]) (by decide +kernel)) ⟨fun _ _ _ _ _ => (pg_name (i := 12) sc__law_front.nd rfl (by first | exact Or.inl rfl | exact Or.inr rfl)), fun _ _ _ _ _ => ptsd_nil, fun _ _ _ _ _ => pd_dnewK⟩ (by decide))))
      (pssd_cons (psd_for PassesOwn.never rfl (pid_range1 rfl T.n_range (pad_cons (pd_callB callx_len rfl T.n_len (show bootBuiltins "len" = some (.builtin "len") by decide +kernel) (pad_cons (pd_var 1 (pv 1)) pad_nil)) pad_nil)) (pgd_name (i := 4) (pg_name (i := 4) sc__law_front.nd rfl (by first | exact Or.inl rfl | exact Or.inr rfl))) (pssd_one (psd_lock (psd_for PassesOwn.never rfl (pid_keys (pd_ix (pd_var 3 (pv 3)) (pd_var 4 (pv 4)) (fun _ _ => by with_unfolding_all rfl))) (pgd_name (i := 5) (pg_name (i := 5) sc__law_front.nd rfl (by first | exact Or.inl rfl | exact Or.inr rfl))) (pssd_cons (psd_asg (pd_dget hu (pd_ix (pd_var 3 (pv 3)) (pd_var 4 (pv 4)) (fun _ _ => by with_unfolding_all rfl)) (pd_var 5 (pv 5)) (fun _ _ => by with_unfolding_all rfl)) (pgd_tup rfl (pgs_n1 (pg_name (i := 6) sc__law_front.nd rfl (by first | exact Or.inl rfl | exact Or.inr rfl)) (pgs_n1 (pg_name (i := 7) sc__law_front.nd rfl (by first | exact Or.inl rfl | exact Or.inr rfl)) pgs_n0))))
      (pssd_one (psd_for PassesOwn.never rfl (pid_any (pd_kn c__law_at hr rfl (pad_cons (pd_var 0 (pv 0)) (pad_cons (pd_var 1 (pv 1)) (pad_cons (pd_var 4 (pv 4)) pad_nil))))) (pgd_name (i := 8) (pg_name (i := 8) sc__law_front.nd rfl (by first | exact Or.inl rfl | exact Or.inr rfl))) (pssd_cons (psd_set (i := 9) sc__law_front.nd rfl (by first | exact Or.inl rfl | exact Or.inr rfl) (pd_ix (pd_var 3 (pv 3)) (pd_bin opx_add mono_oF (pd_var 4 (pv 4)) (pd_callB callx_len rfl T.n_len (show bootBuiltins "len" = some (.builtin "len") by decide +kernel) (pad_cons (pd_ix (pd_var 8 (pv 8)) pd_int (fun _ _ => by with_unfolding_all rfl)) pad_nil))) (fun _ _ => by with_unfolding_all rfl)))
      (pssd_cons (psd_set (i := 10) sc__law_front.nd rfl (by first | exact Or.inl rfl | exact Or.inr rfl) (pd_bin opx_add mono_oF (pd_bin opx_add mono_oF (pd_var 6 (pv 6)) (pd_ix (pd_ix (pd_var 2 (pv 2)) (pd_var 5 (pv 5)) (fun _ _ => by with_unfolding_all rfl)) (pd_ix (pd_var 8 (pv 8)) pd_int (fun _ _ => by with_unfolding_all rfl)) (fun _ _ => by with_unfolding_all rfl))) (pd_ix (pd_var 8 (pv 8)) pd_int (fun _ _ => by with_unfolding_all rfl))))
      (pssd_cons (psd_set (i := 11) sc__law_front.nd rfl (by first | exact Or.inl rfl | exact Or.inr rfl) (pd_dget2 hu (pd_var 9 (pv 9)) (pd_ix (pd_var 8 (pv 8)) pd_int (fun _ _ => by with_unfolding_all rfl)) (pd_tup (pad_cons (pd_bin opx_add mono_oF (pd_var 10 (pv 10)) pd_int) (pad_cons pd_int pad_nil))) ⟨rfl, rfl, rfl, rfl⟩))
      (pssd_one (psd_if (ptd_cmp opx_lt mono_oF (pd_var 10 (pv 10)) (pd_ix (pd_var 11 (pv 11)) pd_int (fun _ _ => by with_unfolding_all rfl)) (nomark _)) (pssd_one (psd_dput hu (pd_var 9 (pv 9)) (pd_ix (pd_var 8 (pv 8)) pd_int (fun _ _ => by with_unfolding_all rfl)) (pd_tup (pad_cons (pd_var 10 (pv 10)) (pad_cons (pd_var 7 (pv 7)) pad_nil))))) (pssd_one (psd_if (ptd_cmp (opx_eq hu) mono_oF (pd_var 10 (pv 10)) (pd_ix (pd_var 11 (pv 11)) pd_int (fun _ _ => by with_unfolding_all rfl)) (nomark _)) (pssd_one (psd_dput hu (pd_var 9 (pv 9)) (pd_ix (pd_var 8 (pv 8)) pd_int (fun _ _ => by with_unfolding_all rfl)) (pd_tup (pad_cons (pd_var 10 (pv 10)) (pad_cons (pd_bin opx_add mono_oF (pd_ix (pd_var 11 (pv 11)) pd_int (fun _ _ => by with_unfolding_all rfl)) (pd_var 7 (pv 7))) pad_nil))))) pssd_nil))))))))))))))
      (pssd_one (psd_ret (pd_var 3 (pv 3)))))))
abbrev s__law_least : Stmt := top 41
abbrev N__law_least : List Str := ["book", "reading", "joins", "row", "ends", "least", "kind", "cost", "ways"]
theorem sc__law_least : FnScope ["book", "reading", "joins", "row", "ends", "least", "kind", "cost", "ways"] ["book", "reading"] (defScope s__law_least) := ⟨rfl, rfl, rfl, by decide +kernel, rfl, by decide +kernel, by decide +kernel⟩
theorem d__law_least {P : Program} {w : World} {K : PySem.W.Frag} {mg : Str → Option Value} {base : Heap} (T : Tx K mg) (c__law_front : Kn P w K mg base "_law_front" 2 ["book", "reading"] sp__law_front) (f : Addr) (cdv : Value) (A : Around) (outer : List PySem.Env) (s : Shared) (H : Hp) (E : XK) (hr : RoomG 2 (A.deeper (envOfC "_law_least" (defScope s__law_least) s.heap.objs.size f cdv))) :
    PSsD (dx0 (cxOf CX0 P w K mg base ["book", "reading", "joins", "row", "ends", "least", "kind", "cost", "ways"] "_law_least" (defScope s__law_least) f cdv A outer s H E).nox) (defBody s__law_least) b__law_least :=
  have hu := hr.units
  (pssd_cons (psd_set (i := 2) sc__law_least.nd rfl (by first | exact Or.inl rfl | exact Or.inr rfl) (pd_ix (pd_var 0 (pv 0)) pd_int (fun _ _ => by with_unfolding_all rfl)))
      (pssd_cons (psd_set (i := 3) sc__law_least.nd rfl (by first | exact Or.inl rfl | exact Or.inr rfl) (pd_ix (pd_kn c__law_front hr rfl (pad_cons (pd_var 0 (pv 0)) (pad_cons (pd_var 1 (pv 1)) pad_nil))) (pd_neg pd_int) (fun _ _ => by with_unfolding_all rfl)))
      (pssd_cons (psd_lock (psd_setLc (own := [("kind", 6)]) (.one 6) (i := 4) rfl sc__law_least.nd rfl rfl (sw_true rfl rfl rfl (by decide +kernel)) (pid_keys (pd_var 3 (pv 3))) (blkOk_by (N := N__law_least) (sc := defScope s__law_least) (own := [("kind", 6)]) (by decide +kernel)) ⟨fun _ _ _ _ _ => (pg_name (i := 6) sc__law_least.nd rfl (by first | exact Or.inl rfl | exact Or.inr rfl)), fun _ _ _ _ _ => ptsd_nil, fun _ _ _ _ _ => (pd_tup (pad_cons (pd_bin opx_add mono_oF (pd_ix (pd_dget hu (pd_var 3 (pv 3)) (pd_var 6 (pv 6)) (fun _ _ => by with_unfolding_all rfl)) pd_int (fun _ _ => by with_unfolding_all rfl)) (pd_ix (pd_ix (pd_var 2 (pv 2)) (pd_var 6 (pv 6)) (fun _ _ => by with_unfolding_all rfl)) (pd_neg pd_int) (fun _ _ => by with_unfolding_all rfl))) (pad_cons (pd_ix (pd_dget hu (pd_var 3 (pv 3)) (pd_var 6 (pv 6)) (fun _ _ => by with_unfolding_all rfl)) pd_int (fun _ _ => by with_unfolding_all rfl)) pad_nil)))⟩ (by decide)))
      (pssd_cons (psd_set (i := 5) sc__law_least.nd rfl (by first | exact Or.inl rfl | exact Or.inr rfl) (pd_callB (callx_minL rfl) rfl T.n_min (show bootBuiltins "min" = some (.builtin "min") by decide +kernel) (pad_cons (pd_lc (own := [("cost", 7), ("ways", 8)]) (.many [7, 8]) rfl sc__law_least.nd (pid_any (pd_var 4 (pv 4))) (blkOk_by (N := N__law_least) (sc := defScope s__law_least) (own := [("cost", 7), ("ways", 8)]) (by decide +kernel)) ⟨fun _ _ _ _ _ => (pg_tup rfl (pgs_n1 (pg_name (i := 7) sc__law_least.nd rfl (by first | exact Or.inl rfl | exact Or.inr rfl)) (pgs_n1 (pg_name (i := 8) sc__law_least.nd rfl (by first | exact Or.inl rfl | exact Or.inr rfl)) pgs_n0))), fun _ _ _ _ _ => ptsd_nil, fun _ _ _ _ _ => (pd_var 7 (pv 7))⟩ (by decide)) pad_nil)))
      (pssd_one (psd_ret (pd_tup (pad_cons (pd_var 5 (pv 5)) (pad_cons (pd_callB (callx_sum rfl) rfl T.n_sum (show bootBuiltins "sum" = some (.builtin "sum") by decide +kernel) (pad_cons (pd_lc (own := [("cost", 7), ("ways", 8)]) (.many [7, 8]) rfl sc__law_least.nd (pid_any (pd_var 4 (pv 4))) (blkOk_by (N := N__law_least) (sc := defScope s__law_least) (own := [("cost", 7), ("ways", 8)]) (by decide +kernel)) ⟨fun _ _ _ _ _ => (pg_tup rfl (pgs_n1 (pg_name (i := 7) sc__law_least.nd rfl (by first | exact Or.inl rfl | exact Or.inr rfl)) (pgs_n1 (pg_name (i := 8) sc__law_least.nd rfl (by first | exact Or.inl rfl | exact Or.inr rfl)) pgs_n0))), fun _ _ _ _ _ => (ptsd_one (ptd_cmp (opx_eq hu) mono_oF (pd_var 7 (pv 7)) (pd_var 5 (pv 5)) (nomark _))), fun _ _ _ _ _ => (pd_var 8 (pv 8))⟩ (by decide)) pad_nil)) pad_nil)))))))))
abbrev s__law_key : Stmt := top 39
abbrev N__law_key : List Str := ["book", "split", "start", "joins", "kinds", "found", "word", "k"]
theorem sc__law_key : FnScope ["book", "split", "start", "joins", "kinds", "found", "word", "k"] ["book", "split", "start"] (defScope s__law_key) := ⟨rfl, rfl, rfl, by decide +kernel, rfl, by decide +kernel, by decide +kernel⟩
theorem d__law_key {P : Program} {w : World} {K : PySem.W.Frag} {mg : Str → Option Value} {base : Heap} (T : Tx K mg) (f : Addr) (cdv : Value) (A : Around) (outer : List PySem.Env) (s : Shared) (H : Hp) (E : XK) (hr : RoomG 0 (A.deeper (envOfC "_law_key" (defScope s__law_key) s.heap.objs.size f cdv))) :
    PSsD (dx0 (cxOf CX0 P w K mg base ["book", "split", "start", "joins", "kinds", "found", "word", "k"] "_law_key" (defScope s__law_key) f cdv A outer s H E).nox) (defBody s__law_key) b__law_key :=
  have hu := hr.units
  (pssd_cons (psd_set (i := 3) sc__law_key.nd rfl (by first | exact Or.inl rfl | exact Or.inr rfl) (pd_ix (pd_var 0 (pv 0)) pd_int (fun _ _ => by with_unfolding_all rfl)))
      (pssd_cons (psd_set (i := 4) sc__law_key.nd rfl (by first | exact Or.inl rfl | exact Or.inr rfl) (pd_bin opx_add mono_oF (pd_bin opx_add mono_oF (pd_lst (pad_cons (pd_var 2 (pv 2)) pad_nil)) (pd_lc (own := [("word", 6)]) (.one 6) rfl sc__law_key.nd (pid_any (pd_var 1 (pv 1))) (blkOk_by (N := N__law_key) (sc := defScope s__law_key) (own := [("word", 6)]) (by decide +kernel)) ⟨fun _ _ _ _ _ => (pg_name (i := 6) sc__law_key.nd rfl (by first | exact Or.inl rfl | exact Or.inr rfl)), fun _ _ _ _ _ => ptsd_nil, fun _ _ _ _ _ => (pd_ix (pd_var 6 (pv 6)) pd_int (fun _ _ => by with_unfolding_all rfl))⟩ (by decide))) (pd_lst (pad_cons (pd_bin opx_sub mono_oF (pd_callB callx_len rfl T.n_len (show bootBuiltins "len" = some (.builtin "len") by decide +kernel) (pad_cons (pd_var 3 (pv 3)) pad_nil)) pd_int) pad_nil))))
      (pssd_cons (psd_set (i := 5) sc__law_key.nd rfl (by first | exact Or.inl rfl | exact Or.inr rfl) (pd_bin opx_add mono_oF (pd_callB (callx_sum rfl) rfl T.n_sum (show bootBuiltins "sum" = some (.builtin "sum") by decide +kernel) (pad_cons (pd_lc (own := [("word", 6)]) (.one 6) rfl sc__law_key.nd (pid_any (pd_var 1 (pv 1))) (blkOk_by (N := N__law_key) (sc := defScope s__law_key) (own := [("word", 6)]) (by decide +kernel)) ⟨fun _ _ _ _ _ => (pg_name (i := 6) sc__law_key.nd rfl (by first | exact Or.inl rfl | exact Or.inr rfl)), fun _ _ _ _ _ => ptsd_nil, fun _ _ _ _ _ => (pd_ix (pd_var 6 (pv 6)) pd_int (fun _ _ => by with_unfolding_all rfl))⟩ (by decide)) pad_nil)) (pd_callB (callx_sum rfl) rfl T.n_sum (show bootBuiltins "sum" = some (.builtin "sum") by decide +kernel) (pad_cons (pd_lc (own := [("k", 7)]) (.one 7) rfl sc__law_key.nd (pid_range1 rfl T.n_range (pad_cons (pd_bin opx_sub mono_oF (pd_callB callx_len rfl T.n_len (show bootBuiltins "len" = some (.builtin "len") by decide +kernel) (pad_cons (pd_var 4 (pv 4)) pad_nil)) pd_int) pad_nil)) (blkOk_by (N := N__law_key) (sc := defScope s__law_key) (own := [("k", 7)]) (by decide +kernel)) ⟨fun _ _ _ _ _ => (pg_name (i := 7) sc__law_key.nd rfl (by first | exact Or.inl rfl | exact Or.inr rfl)), fun _ _ _ _ _ => ptsd_nil, fun _ _ _ _ _ => (pd_ix (pd_ix (pd_var 3 (pv 3)) (pd_ix (pd_var 4 (pv 4)) (pd_var 7 (pv 7)) (fun _ _ => by with_unfolding_all rfl)) (fun _ _ => by with_unfolding_all rfl)) (pd_ix (pd_var 4 (pv 4)) (pd_bin opx_add mono_oF (pd_var 7 (pv 7)) pd_int) (fun _ _ => by with_unfolding_all rfl)) (fun _ _ => by with_unfolding_all rfl))⟩ (by decide)) pad_nil))))
      (pssd_one (psd_ret (pd_tup (pad_cons (pd_var 5 (pv 5)) (pad_cons (pd_callB callx_len rfl T.n_len (show bootBuiltins "len" = some (.builtin "len") by decide +kernel) (pad_cons (pd_var 1 (pv 1)) pad_nil)) (pad_cons (pd_lc (own := [("word", 6)]) (.one 6) rfl sc__law_key.nd (pid_any (pd_var 1 (pv 1))) (blkOk_by (N := N__law_key) (sc := defScope s__law_key) (own := [("word", 6)]) (by decide +kernel)) ⟨fun _ _ _ _ _ => (pg_name (i := 6) sc__law_key.nd rfl (by first | exact Or.inl rfl | exact Or.inr rfl)), fun _ _ _ _ _ => ptsd_nil, fun _ _ _ _ _ => (pd_slice (pd_var 6 (pv 6)) pod_none (pod_some pd_int))⟩ (by decide)) pad_nil)))))))))
abbrev s__law_first_right : Stmt := top 42
theorem sc__law_first_right : FnScope ["book", "left", "start", "told", "key", "word", "rest", "other"] ["book", "left", "start", "told"] (defScope s__law_first_right) := ⟨rfl, rfl, rfl, by decide +kernel, rfl, by decide +kernel, by decide +kernel⟩
theorem d__law_first_right {P : Program} {w : World} {K : PySem.W.Frag} {mg : Str → Option Value} {base : Heap} (T : Tx K mg) (c_cheapest : KnK P w K mg base "cheapest" "behind" 128 ["book", "reading", "behind"] sp_cheapest) (c__law_key : Kn P w K mg base "_law_key" 1 ["book", "split", "start"] sp__law_key) (c__law_at : Kn P w K mg base "_law_at" 1 ["book", "reading", "place"] sp__law_at) (f : Addr) (cdv : Value) (A : Around) (outer : List PySem.Env) (s : Shared) (H : Hp) (E : XK) (hr : RoomG 128 (A.deeper (envOfC "_law_first_right" (defScope s__law_first_right) s.heap.objs.size f cdv))) :
    PSsD (dx0 (cxOf CX0 P w K mg base ["book", "left", "start", "told", "key", "word", "rest", "other"] "_law_first_right" (defScope s__law_first_right) f cdv A outer s H E).nox) (defBody s__law_first_right) b__law_first_right :=
  have hu := hr.units
  (pssd_cons (psd_if (ptd_cmp (opx_ne hu) mono_oF (pd_kkw c_cheapest hr rfl (pad_cons (pd_var 0 (pv 0)) (pad_cons (pd_var 1 (pv 1)) pad_nil)) (pd_var 2 (pv 2))) (pd_var 3 (pv 3)) (nomark _)) (pssd_one (psd_ret pd_bl)) pssd_nil)
      (pssd_cons (psd_set (i := 4) sc__law_first_right.nd rfl (by first | exact Or.inl rfl | exact Or.inr rfl) (pd_kn c__law_key (hr.mono (by decide)) rfl (pad_cons (pd_var 0 (pv 0)) (pad_cons (pd_var 3 (pv 3)) (pad_cons (pd_var 2 (pv 2)) pad_nil)))))
      (pssd_cons (psd_for PassesOwn.never rfl (pid_any (pd_kn c__law_at (hr.mono (by decide)) rfl (pad_cons (pd_var 0 (pv 0)) (pad_cons (pd_var 1 (pv 1)) (pad_cons pd_int pad_nil))))) (pgd_name (i := 5) (pg_name (i := 5) sc__law_first_right.nd rfl (by first | exact Or.inl rfl | exact Or.inr rfl))) (pssd_cons (psd_set (i := 6) sc__law_first_right.nd rfl (by first | exact Or.inl rfl | exact Or.inr rfl) (pd_slice (pd_var 1 (pv 1)) (pod_some (pd_callB callx_len rfl T.n_len (show bootBuiltins "len" = some (.builtin "len") by decide +kernel) (pad_cons (pd_ix (pd_var 5 (pv 5)) pd_int (fun _ _ => by with_unfolding_all rfl)) pad_nil))) pod_none))
      (pssd_cons (psd_set (i := 7) sc__law_first_right.nd rfl (by first | exact Or.inl rfl | exact Or.inr rfl) (pd_lst (pad_cons (pd_var 5 (pv 5)) pad_nil)))
      (pssd_cons (psd_if (ptd_cmp (opx_ne hu) mono_oF (pd_var 6 (pv 6)) pd_str (nomark _)) (pssd_one (psd_set (i := 7) sc__law_first_right.nd rfl (by first | exact Or.inl rfl | exact Or.inr rfl) (pd_bin opx_add mono_oF (pd_var 7 (pv 7)) (pd_kkw c_cheapest hr rfl (pad_cons (pd_var 0 (pv 0)) (pad_cons (pd_var 6 (pv 6)) pad_nil)) (pd_ix (pd_var 5 (pv 5)) pd_int (fun _ _ => by with_unfolding_all rfl)))))) pssd_nil)
      (pssd_one (psd_if (ptd_cmp (opx_ltD hu) mono_oF (pd_kn c__law_key (hr.mono (by decide)) rfl (pad_cons (pd_var 0 (pv 0)) (pad_cons (pd_var 7 (pv 7)) (pad_cons (pd_var 2 (pv 2)) pad_nil)))) (pd_var 4 (pv 4)) (nomark _)) (pssd_one (psd_ret pd_bl)) pssd_nil))))))
      (pssd_one (psd_ret pd_bl)))))
abbrev s__law_right : Stmt := top 43
theorem sc__law_right : FnScope ["pot", "wide", "letters", "book", "reading", "told", "left", "start", "k"] ["pot", "wide"] (defScope s__law_right) := ⟨rfl, rfl, rfl, by decide +kernel, rfl, by decide +kernel, by decide +kernel⟩
theorem d__law_right {P : Program} {w : World} {K : PySem.W.Frag} {mg : Str → Option Value} {base : Heap} (T : Tx K mg) (c__law_letters : Kn P w K mg base "_law_letters" 2 ["pot"] sp__law_letters) (c__law_book : Kn P w K mg base "_law_book" 4 ["pot", "letters", "most"] sp__law_book) (c__law_reading : Kn P w K mg base "_law_reading" 2 ["pot", "book", "letters", "most"] sp__law_reading) (c__law_take : Kn P w K mg base "_law_take" 1 ["pot", "many"] sp__law_take) (c_cheapest : KnK P w K mg base "cheapest" "behind" 128 ["book", "reading", "behind"] sp_cheapest) (c_is_split : Kn P w K mg base "is_split" 6 ["book", "reading", "thing"] sp_is_split) (c_cost_of : KnK P w K mg base "cost_of" "behind" 5 ["book", "split", "behind"] sp_cost_of) (c__law_least : Kn P w K mg base "_law_least" 3 ["book", "reading"] sp__law_least) (c__law_first_right : Kn P w K mg base "_law_first_right" 129 ["book", "left", "start", "told"] sp__law_first_right) (f : Addr) (cdv : Value) (A : Around) (outer : List PySem.Env) (s : Shared) (H : Hp) (E : XK) (hr : RoomG 129 (A.deeper (envOfC "_law_right" (defScope s__law_right) s.heap.objs.size f cdv))) :
    PSsD (dx0 (cxOf CX0 P w K mg base ["pot", "wide", "letters", "book", "reading", "told", "left", "start", "k"] "_law_right" (defScope s__law_right) f cdv A outer s H E).nox) (defBody s__law_right) b__law_right :=
  have hu := hr.units
  (pssd_cons (psd_set (i := 2) sc__law_right.nd rfl (by first | exact Or.inl rfl | exact Or.inr rfl) (pd_kn c__law_letters (hr.mono (by decide)) rfl (pad_cons (pd_var 0 (pv 0)) pad_nil)))
      (pssd_cons (psd_set (i := 3) sc__law_right.nd rfl (by first | exact Or.inl rfl | exact Or.inr rfl) (pd_kn c__law_book (hr.mono (by decide)) rfl (pad_cons (pd_var 0 (pv 0)) (pad_cons (pd_var 2 (pv 2)) (pad_cons pd_int pad_nil)))))
      (pssd_cons (psd_set (i := 4) sc__law_right.nd rfl (by first | exact Or.inl rfl | exact Or.inr rfl) (pd_kn c__law_reading (hr.mono (by decide)) rfl (pad_cons (pd_var 0 (pv 0)) (pad_cons (pd_var 3 (pv 3)) (pad_cons (pd_var 2 (pv 2)) (pad_cons pd_int pad_nil))))))
      (pssd_cons (psd_if (ptd_w (pwd_and (ptd_val (pd_var 1 (pv 1))) (pwd_and1 (ptd_cmp (opx_eq hu) mono_oF (pd_kn c__law_take (hr.mono (by decide)) rfl (pad_cons (pd_var 0 (pv 0)) (pad_cons pd_int pad_nil))) pd_int (nomark _))))) (pssd_one (psd_set (i := 4) sc__law_right.nd rfl (by first | exact Or.inl rfl | exact Or.inr rfl) (pd_slice (pd_bin opx_mul (mono_oOr mono_iic mono_oF) (pd_var 4 (pv 4)) pd_int) pod_none (pod_some pd_int)))) pssd_nil)
      (pssd_cons (psd_set (i := 5) sc__law_right.nd rfl (by first | exact Or.inl rfl | exact Or.inr rfl) (pd_kk c_cheapest (hr.mono (by decide)) rfl (pad_cons (pd_var 3 (pv 3)) (pad_cons (pd_var 4 (pv 4)) pad_nil))))
      (pssd_cons (psd_if (ptd_w (pwd_or (ptd_cmp opx_isNotB mono_oF (pd_kn c_is_split (hr.mono (by decide)) rfl (pad_cons (pd_var 3 (pv 3)) (pad_cons (pd_var 4 (pv 4)) (pad_cons (pd_var 5 (pv 5)) pad_nil)))) pd_bl (nomark _)) (pwd_or1 (ptd_cmp (opx_ne hu) mono_oF (pd_kk c_cost_of (hr.mono (by decide)) rfl (pad_cons (pd_var 3 (pv 3)) (pad_cons (pd_var 5 (pv 5)) pad_nil))) (pd_ix (pd_kn c__law_least (hr.mono (by decide)) rfl (pad_cons (pd_var 3 (pv 3)) (pad_cons (pd_var 4 (pv 4)) pad_nil))) pd_int (fun _ _ => by with_unfolding_all rfl)) (nomark _))))) (pssd_one (psd_ret pd_bl)) pssd_nil)
      (pssd_cons (psd_set (i := 6) sc__law_right.nd rfl (by first | exact Or.inl rfl | exact Or.inr rfl) (pd_var 4 (pv 4)))
      (pssd_cons (psd_set (i := 7) sc__law_right.nd rfl (by first | exact Or.inl rfl | exact Or.inr rfl) (pd_bin opx_sub mono_oF (pd_callB callx_len rfl T.n_len (show bootBuiltins "len" = some (.builtin "len") by decide +kernel) (pad_cons (pd_ix (pd_var 3 (pv 3)) pd_int (fun _ _ => by with_unfolding_all rfl)) pad_nil)) pd_int))
      (pssd_cons (psd_for PassesOwn.never rfl (pid_range1 rfl T.n_range (pad_cons (pd_callB callx_len rfl T.n_len (show bootBuiltins "len" = some (.builtin "len") by decide +kernel) (pad_cons (pd_var 5 (pv 5)) pad_nil)) pad_nil)) (pgd_name (i := 8) (pg_name (i := 8) sc__law_right.nd rfl (by first | exact Or.inl rfl | exact Or.inr rfl))) (pssd_cons (psd_if (ptd_w (pwd_and (ptd_w (pwd_or (ptd_cmp opx_lt mono_oF (pd_var 8 (pv 8)) pd_int (nomark _)) (pwd_or1 (ptd_cmp (opx_eq hu) mono_oF (pd_bin opx_mod mono_iic (pd_var 8 (pv 8)) pd_int) pd_int (nomark _))))) (pwd_and1 (ptd_not (ptd_val (pd_kn c__law_first_right hr rfl (pad_cons (pd_var 3 (pv 3)) (pad_cons (pd_var 6 (pv 6)) (pad_cons (pd_var 7 (pv 7)) (pad_cons (pd_slice (pd_var 5 (pv 5)) (pod_some (pd_var 8 (pv 8))) pod_none) pad_nil)))))))))) (pssd_one (psd_ret pd_bl)) pssd_nil)
      (pssd_cons (psd_set (i := 6) sc__law_right.nd rfl (by first | exact Or.inl rfl | exact Or.inr rfl) (pd_slice (pd_var 6 (pv 6)) (pod_some (pd_callB callx_len rfl T.n_len (show bootBuiltins "len" = some (.builtin "len") by decide +kernel) (pad_cons (pd_ix (pd_ix (pd_var 5 (pv 5)) (pd_var 8 (pv 8)) (fun _ _ => by with_unfolding_all rfl)) pd_int (fun _ _ => by with_unfolding_all rfl)) pad_nil))) pod_none))
      (pssd_one (psd_set (i := 7) sc__law_right.nd rfl (by first | exact Or.inl rfl | exact Or.inr rfl) (pd_ix (pd_ix (pd_var 5 (pv 5)) (pd_var 8 (pv 8)) (fun _ _ => by with_unfolding_all rfl)) pd_int (fun _ _ => by with_unfolding_all rfl)))))))
      (pssd_one (psd_ret (pd_cmp (opx_eq hu) mono_oF (pd_var 6 (pv 6)) pd_str (nomark _)))))))))))))
abbrev s__law_pot : Stmt := top 31
theorem sc__law_pot : FnScope ["script", "k", "cell"] ["script", "k"] (defScope s__law_pot) := ⟨rfl, rfl, rfl, by decide +kernel, rfl, by decide +kernel, by decide +kernel⟩
theorem d__law_pot {P : Program} {w : World} {K : PySem.W.Frag} {mg : Str → Option Value} {base : Heap} (T : Tx K mg) (f : Addr) (cdv : Value) (A : Around) (outer : List PySem.Env) (s : Shared) (H : Hp) (E : XK) (hr : RoomG 0 (A.deeper (envOfC "_law_pot" (defScope s__law_pot) s.heap.objs.size f cdv))) :
    PSsD (dx0 (cxOf CX0 P w K mg base ["script", "k", "cell"] "_law_pot" (defScope s__law_pot) f cdv A outer s H E).nox) (defBody s__law_pot) b__law_pot :=
  have hu := hr.units
  (pssd_cons (psd_set (i := 2) sc__law_pot.nd rfl (by first | exact Or.inl rfl | exact Or.inr rfl) pd_int)
      (pssd_cons (psd_if (ptd_cmp opx_lt mono_oF (pd_var 1 (pv 1)) (pd_callB callx_len rfl T.n_len (show bootBuiltins "len" = some (.builtin "len") by decide +kernel) (pad_cons (pd_var 0 (pv 0)) pad_nil)) (nomark _)) (pssd_one (psd_set (i := 2) sc__law_pot.nd rfl (by first | exact Or.inl rfl | exact Or.inr rfl) (pd_ix (pd_var 0 (pv 0)) (pd_var 1 (pv 1)) (fun _ _ => by with_unfolding_all rfl)))) pssd_nil)
      (pssd_one (psd_ret (pd_new (pad_cons (pd_callB (callx_max2 rfl) rfl T.n_max (show bootBuiltins "max" = some (.builtin "max") by decide +kernel) (pad_cons pd_int (pad_cons (pd_bin opx_sub mono_oF (pd_var 2 (pv 2)) (pd_bin opx_pow mono_iic pd_int pd_int)) pad_nil))) (pad_cons (pd_bin opx_add mono_oF (pd_bin opx_mod mono_iic (pd_var 2 (pv 2)) pd_int) (pd_bin opx_mul (mono_oOr mono_iic mono_oF) pd_int (pd_var 1 (pv 1)))) (pad_cons pd_int pad_nil))))))))
abbrev s_law : Stmt := top 44
theorem sc_law : FnScope ["script", "k"] ["script"] (defScope s_law) := ⟨rfl, rfl, rfl, by decide +kernel, rfl, by decide +kernel, by decide +kernel⟩
theorem d_law {P : Program} {w : World} {K : PySem.W.Frag} {mg : Str → Option Value} {base : Heap} (T : Tx K mg) (c__law_right : Kn P w K mg base "_law_right" 130 ["pot", "wide"] sp__law_right) (c__law_pot : Kn P w K mg base "_law_pot" 1 ["script", "k"] sp__law_pot) (f : Addr) (cdv : Value) (A : Around) (outer : List PySem.Env) (s : Shared) (H : Hp) (E : XK) (hr : RoomG 130 (A.deeper (envOfC "law" (defScope s_law) s.heap.objs.size f cdv))) :
    PSsD (dx0 (cxOf CX0 P w K mg base ["script", "k"] "law" (defScope s_law) f cdv A outer s H E).nox) (defBody s_law) b_law :=
  have hu := hr.units
  (pssd_cons (psd_for PassesOwn.never rfl (pid_range1 rfl T.n_range (pad_cons (pd_callB (callx_max2 rfl) rfl T.n_max (show bootBuiltins "max" = some (.builtin "max") by decide +kernel) (pad_cons pd_int (pad_cons (pd_callB (callx_min2 rfl) rfl T.n_min (show bootBuiltins "min" = some (.builtin "min") by decide +kernel) (pad_cons pd_int (pad_cons (pd_callB callx_len rfl T.n_len (show bootBuiltins "len" = some (.builtin "len") by decide +kernel) (pad_cons (pd_var 0 (pv 0)) pad_nil)) pad_nil))) pad_nil))) pad_nil)) (pgd_name (i := 1) (pg_name (i := 1) sc_law.nd rfl (by first | exact Or.inl rfl | exact Or.inr rfl))) (pssd_one (psd_if (ptd_not (ptd_val (pd_kn c__law_right hr rfl (pad_cons (pd_kn c__law_pot (hr.mono (by decide)) rfl (pad_cons (pd_var 0 (pv 0)) (pad_cons (pd_var 1 (pv 1)) pad_nil))) (pad_cons (pd_cmp (opx_eq hu) mono_oF (pd_var 1 (pv 1)) pd_int (nomark _)) pad_nil))))) (pssd_one (psd_ret pd_bl)) pssd_nil)))
      (pssd_one (psd_ret pd_bl)))
end Qk11
set_option Elab.async false
set_option linter.all false
set_option autoImplicit false
set_option maxRecDepth 100000
set_option maxHeartbeats 4000000
namespace Qk11
section
open PySem PySem.W PySem.Calls PyProof.Rows HeadRun
local macro_rules | `(tactic| kernel_rfl) => `(tactic| exact (‹∀ p : Prop, p›) _)
set_option maxHeartbeats 0 in
/-- of something false, so of no weight: it stands for the constant alone that the kit's word for the head writes beside it (heads.heap_39, the objects behind the top); that these are right is shown by run, below -/
theorem heads (h : ∀ p : Prop, p) : PySem.Challenge.rw_asshown_k11_whole_rests_of_the_cheapest.Holds := by
  w_on; o_law; k_headL
  case hw => w_witness2
  exact h _
end
section
open PySem PySem.W PySem.Calls PyProof.Rows HeadRun
abbrev hdR : OpenRow := OpenLaw.row PySem.Challenge.rw_asshown_k11_whole_rests_of_the_cheapest
abbrev hdq : Program := view hdR.prog [44]
def hdn0 : List PySem.Str := ["PLAIN", "MOST", "__name__", "PenError", "NoBook", "NoReading", "NoSplit", "NoNumber", "SMALL", "LARGE", "LONGEST", "is_count", "is_small", "is_reading", "is_writing", "is_word", "are_joins", "is_book", "need_both", "kind_behind", "is_raw", "parts_to", "is_split", "text_made", "cost_of", "standing", "Order", "cheapest", "_law_pot", "_law_take", "_law_letters", "_law_cost"]
def hdn1 : List PySem.Str := ["_law_word", "_law_book", "_law_at", "_law_reading", "_law_key", "_law_front", "_law_least", "_law_first_right", "_law_right"]
def hdn : List PySem.Str := hdn0 ++ hdn1
noncomputable def adrs : List Addr := (heads.heap_39 (aWorld 1).params).map (·.1)
set_option maxHeartbeats 0 in
theorem ek0 (P : Params) : ((heads.heap_39 P).map (·.1) == adrs) = true := by kernel_rfl
theorem ek (P : Params) : adrs = (heads.heap_39 P).map (·.1) := (eq_of_beq (ek0 P)).symm
set_option maxHeartbeats 0 in
theorem run (w : World) (os : OsState) : (endF (stepQ (denQ tabQ) hdR.prog w) 20000 hdR.prog w os).map (fun s => (looksF hdR.prog (boot_heap w.params) s.abs, seenQ hdq hdn (importedModules hdR.prog.main.body) (fun s => xlAt hdq [] s && recOk (RowW.records hdR.toRowW) s) s.abs, adrs.map (getT s))) = some (true, openGood hdq hdn, (heads.heap_39 w.params).map fun x => some x.2) := by
  kernel_rfl
end
end Qk11
set_option Elab.async false
set_option linter.all false
set_option autoImplicit false
set_option maxRecDepth 100000
set_option maxHeartbeats 4000000
namespace Qk11
open PySem PySem.Spec PyProof.Rows L2 Dl Bk Fb
open Fa (strL ifD ifB ifT ifF fapp strL_length strL_cps)
theorem min_l {l : List Int} (h : l ≠ []) {s : Sto} : minLF s [.lst (l.map D.int)] = some (.int (minI l)) := by
  show (match seqL s (.lst (l.map D.int)) with | some ds => (match intsOf ds with | some (b :: bs) => some (D.int (minI (b :: bs))) | _ => none) | none => none) = _
  rw [seqL_lst]
  show (match intsOf (l.map D.int) with | some (b :: bs) => some (D.int (minI (b :: bs))) | _ => none) = _
  rw [intsOf_map]
  cases l with
  | nil => exact absurd rfl h
  | cons x l => rfl
end Qk11
set_option Elab.async false
set_option linter.all false
set_option autoImplicit false
set_option maxRecDepth 100000
set_option maxHeartbeats 4000000
namespace Qk11
open PySem PySem.Spec PyProof.Rows L2 Dl Bk Fb
open Fa (strL ifD ifB ifT ifF fapp strL_length strL_cps)
/-- the store only grew -/
def Pre (s s' : Sto) : Prop := ∃ u, s' = s ++ u
theorem Pre.refl {s : Sto} : Pre s s := ⟨[], by simp⟩
theorem Pre.app {s s' : Sto} (h : Pre s s') {u : Sto} : Pre s (s' ++ u) := by
  obtain ⟨v, rfl⟩ := h
  exact ⟨v ++ u, by rw [List.append_assoc]⟩
theorem Pre.set {s s' : Sto} (h : Pre s s') {l : Nat} (hl : s.length ≤ l) {o : Option MO} : Pre s (s'.set l o) := by
  obtain ⟨v, rfl⟩ := h
  exact ⟨v.set (l - s.length) o, by rw [List.set_append_right _ _ hl]⟩
theorem Pre.len {s s' : Sto} (h : Pre s s') : s.length ≤ s'.length := by
  obtain ⟨v, rfl⟩ := h
  rw [List.length_append]; omega
end Qk11
set_option Elab.async false
set_option linter.all false
set_option autoImplicit false
set_option maxRecDepth 100000
set_option maxHeartbeats 4000000
namespace Qk11
open PySem PySem.Spec PyProof.Rows L2 Dl Bk Fb
open Fa (strL ifD ifB ifT ifF fapp strL_length strL_cps)
theorem rangeD_cons {lo : Int} {n : Nat} : rangeD lo (n + 1) = .int lo :: rangeD (lo + 1) n := by
  unfold rangeD
  rw [List.range_succ_eq_map, List.map_cons, List.map_map]
  congr 1
  · simp
  · refine List.map_congr_left fun k _ => ?_
    show D.int (lo + ((k + 1 : Nat) : Int)) = .int (lo + 1 + (k : Nat))
    rw [Int.natCast_add]
    congr 1
    omega
theorem get_lastM {tl : Sto} {o : Option MO} : (tl ++ [o])[tl.length]? = some o := by simp
theorem set_lastM {tl : Sto} {o o' : Option MO} : (tl ++ [o]).set tl.length o' = tl ++ [o'] := by simp
def pvD (v : Int × Int) : D := .tup [.int v.1, .int v.2]
theorem key_inj {a b : Nat} : decide ((Sum.inl ((a : Nat) : Int) : Key) = .inl ((b : Nat) : Int)) = decide (a = b) := by
  refine decide_eq_decide.mpr ⟨fun h => by have := Sum.inl.inj h; omega, fun h => by rw [h]⟩
theorem getP_conv {es : Sr.Es} {k : Nat} : getP (es.map conv) (.inl ((k : Nat) : Int)) = (getP es k).map pvD := by
  unfold getP
  rw [List.find?_map]
  have e : ((fun p : Key × D => decide (p.1 = .inl ((k : Nat) : Int))) ∘ conv) = fun p => decide (p.1 = k) := funext fun p => key_inj
  rw [e]
  cases es.find? fun p => decide (p.1 = k) with
  | none => rfl
  | some p => rfl
theorem putP_conv {es : Sr.Es} {k : Nat} {v : Int × Int} : putP (es.map conv) (.inl ((k : Nat) : Int)) (pvD v) = (putP es k v).map conv := by
  unfold putP
  rw [List.any_map]
  have e : ((fun p : Key × D => decide (p.1 = .inl ((k : Nat) : Int))) ∘ conv) = fun p => decide (p.1 = k) := funext fun p => key_inj
  rw [e]
  split
  · rw [List.map_map, List.map_map]
    refine List.map_congr_left fun p _ => ?_
    show (if (Sum.inl ((p.1 : Nat) : Int) : Key) = .inl ((k : Nat) : Int) then ((Sum.inl ((p.1 : Nat) : Int) : Key), pvD v) else conv p) = conv (if p.1 = k then (p.1, v) else p)
    by_cases h : p.1 = k
    · rw [if_pos h, if_pos (by rw [h])]; rfl
    · rw [if_neg h, if_neg fun z => h (by have := Sum.inl.inj z; omega)]
  · rw [List.map_append]; rfl
theorem getP_memN {es : Sr.Es} {p : Nat × Int × Int} (nd : (es.map (·.1)).Nodup) (h : p ∈ es) : getP es p.1 = some p.2 := by
  induction es with
  | nil => cases h
  | cons q es ih =>
    rw [List.map_cons, List.nodup_cons] at nd
    show ((q :: es).find? fun r => decide (r.1 = p.1)).map (·.2) = _
    rcases List.mem_cons.mp h with rfl | h
    · rw [List.find?_cons_of_pos (by simp)]; rfl
    · have hne : ¬ q.1 = p.1 := fun e => nd.1 (by rw [e]; exact List.mem_map.mpr ⟨p, h, rfl⟩)
      rw [List.find?_cons_of_neg (by simpa using hne)]
      exact ih nd.2 h
theorem EsOk.len {e : Nat} {es : Sr.Es} (h : EsOk e es) : es.length ≤ e + 1 := by
  have := Sr.nodup_le (m := e + 1) h.nd fun x hx => by
    obtain ⟨p, hp, rfl⟩ := List.mem_map.mp hx
    have := h.kd p hp
    omega
  simpa using this
/-- the store while place p's dict is locked -/
def stL (s : Sto) (p : Nat) (es0 : Sr.Es) (ES : List Sr.Es) : Sto := (s ++ ES.map dkOf).set (s.length + p) (some (dvOf es0).lmo)
theorem st_get {s : Sto} {ES : List Sr.Es} {q : Nat} {es : Sr.Es} (h : ES[q]? = some es) : (s ++ ES.map dkOf)[s.length + q]? = some (dkOf es) := by
  rw [List.getElem?_append_right (by omega), show s.length + q - s.length = q by omega, List.getElem?_map, h]; rfl
theorem stL_p {s : Sto} {p : Nat} {es0 : Sr.Es} {ES : List Sr.Es} (h : p < ES.length) : (stL s p es0 ES)[s.length + p]? = some (some (dvOf es0).lmo) := by
  unfold stL
  rw [List.getElem?_set_self (by rw [List.length_append, List.length_map]; omega)]
theorem stL_q {s : Sto} {p q : Nat} {es0 es : Sr.Es} {ES : List Sr.Es} (h : ES[q]? = some es) (hpq : p ≠ q) : (stL s p es0 ES)[s.length + q]? = some (some (dvOf es).mo) := by
  unfold stL
  rw [List.getElem?_set_ne (by omega)]
  exact st_get h
theorem stL_set {s : Sto} {p q : Nat} {es0 es : Sr.Es} {ES : List Sr.Es} (hpq : p ≠ q) : (stL s p es0 ES).set (s.length + q) (some (dvOf es).mo) = stL s p es0 (ES.set q es) := by
  unfold stL
  rw [List.set_comm _ _ (by omega)]
  congr 1
  rw [List.set_append_right _ _ (by omega), show s.length + q - s.length = q by omega, List.map_set]; rfl
theorem stL_un {s : Sto} {p : Nat} {es0 : Sr.Es} {ES : List Sr.Es} (h : ES[p]? = some es0) : (stL s p es0 ES).set (s.length + p) (some (dvOf es0).mo) = s ++ ES.map dkOf := by
  unfold stL
  rw [List.set_set]
  have g := st_get (s := s) h
  obtain ⟨hl, he⟩ := List.getElem?_eq_some_iff.mp g
  have e : (some (dvOf es0).mo : Option MO) = (s ++ ES.map dkOf)[s.length + p] := he.symm
  rw [e, List.set_getElem_self]
/-- a word is behind a place -/
theorem tot_word {b : Nat → Nat → Sr.M} {p q : Nat} {ES : List Sr.Es} {es es' : Sr.Es} {m : Sr.M} (hq : p < q) (h : ES[q]? = some es) (ht : Sr.tot b q es' = Sr.ad (Sr.tot b q es) m) : Sr.totL b (p + 1) ((ES.set q es').drop (p + 1)) = Sr.ad (Sr.totL b (p + 1) (ES.drop (p + 1))) m := by
  rw [List.drop_set, if_neg (by omega)]
  refine Sr.totL_set (es := es) ?_ (by rw [show p + 1 + (q - (p + 1)) = q by omega]; exact ht)
  rw [List.getElem?_drop, show p + 1 + (q - (p + 1)) = q by omega]
  exact h
/-- what a way that came here turns into -/
theorem way_on {ws rows : List D} {z : Str} {b : Nat → Nat → Sr.M} (hb : Sr.BOk (Wf ws rows z) (jn rows) (rows.length - 1) z.length b) {p : Nat} (hp : p < z.length) (k : Nat) (c w : Int) :
    Sr.sc c w (b p k) = Sr.sm ((ws.filter (standsAt z.cps.toList p) ++ [rawD (z.cps.toList.getD p 0) ((rows.length : Int) - 1)]).map fun x => Sr.sc (c + jn rows k (kd x) + cs x) w (b (p + (rdOf x).length) (kd x))) := by
  rw [hb.st p hp k, Sr.sc_sm, List.map_map, List.map_map]
  have e : (Sr.sc c w ∘ (fun w : Sr.Wd => Sr.sc (jn rows k w.kd + w.cost) 1 (b (p + w.len) w.kd))) ∘ toWd = fun x => Sr.sc (c + jn rows k (kd x) + cs x) w (b (p + (rdOf x).length) (kd x)) := funext fun x => by
    show Sr.sc c w (Sr.sc (jn rows k (kd x) + cs x) 1 (b (p + (rdOf x).length) (kd x))) = _
    rw [Sr.sc_sc, Int.mul_one, ← Int.add_assoc]
  rw [e]
  have pe : ([rawD (z.cps.toList.getD p 0) ((rows.length : Int) - 1)] ++ ws.filter (standsAt z.cps.toList p)).Perm (ws.filter (standsAt z.cps.toList p) ++ [rawD (z.cps.toList.getD p 0) ((rows.length : Int) - 1)]) := List.perm_append_comm
  exact Sr.sm_perm (pe.map _)
section
variable (ds : List D) (s : Sto) (Q : D → Sto → Prop) (E : XD)
theorem pf__law_front (h : sp__law_front ds s Q E) : b__law_front (endsOf Q) (envD ["book", "reading", "joins", "come", "place", "kind", "cost", "ways", "word", "row", "here", "old", "letter"] ds) s := by
  obtain ⟨m, ws, rows, z, rfl, hG, q⟩ := h
  have hB := hG.b
  have hm := hG.m
  have hz1 := hG.a
  have hz2 := hG.l
  have hwl := hB.wl
  have hrl := hB.rl
  have hr0 : 1 ≤ rows.length := List.length_pos_iff.mpr hB.r0
  have hzl : z.cps.toList.length = z.length := cps_len z
  refine ⟨_, rfl, _, rfl, ?_⟩
  refine ⟨_, rfl, _, rfl, _, rfl, Dl.ll, .inl ((rows.length : Int) - 1), rfl, get_lastM, ?_⟩
  rw [set_lastM]
  refine ⟨Dl.ll, _, rfl, _, _, isW_str, le_line (by rw [signsD_length]; omega), ?_⟩
  refine lcD_run (fun rs acc s' => ∃ j, rs.length + j = z.length ∧ acc = (List.range j).map (fun q => D.ref (s.length + 1 + q)) ∧ s' = s ++ ([(rows.length - 1, (0 : Int), (1 : Int))] :: List.replicate j []).map dkOf) ?_ (acc := []) ⟨0, by rw [signsD_length]; rfl, rfl, ?_⟩ ?_
  · rintro e rs acc s' ⟨j, h1, rfl, rfl⟩ k1 k0 g1 g0
    rw [List.length_cons] at h1
    refine ⟨trivial, ?_⟩
    refine g1 _ _ ⟨j + 1, by omega, ?_, ?_⟩
    · rw [List.range_succ, List.map_append]
      congr 1
      show [D.ref _] = [D.ref _]
      congr 2
      rw [List.length_append, List.length_map, List.length_cons, List.length_replicate]
      omega
    · rw [List.replicate_succ', List.map_cons, List.map_cons, List.map_append, ← List.cons_append, ← List.append_assoc]; rfl
  · show s ++ [some (MO.dk [.inl ((rows.length : Int) - 1)] [.tup [.int 0, .int 1]])] = s ++ [some (MO.dk [.inl (((rows.length - 1 : Nat)) : Int)] [.tup [.int 0, .int 1]])]
    rw [show ((rows.length - 1 : Nat) : Int) = (rows.length : Int) - 1 by omega]
  rintro acc s' ⟨j, h1, rfl, rfl⟩
  rw [List.length_nil, Nat.zero_add] at h1
  subst h1
  refine ⟨trivial, ?_⟩
  refine ⟨_, addl (le_line (by rw [List.length_map, List.length_range]; show 1 + _ ≤ _; omega)), ?_⟩
  have ecome : [D.ref s.length] ++ ((List.range z.length).map fun q => D.ref (s.length + 1 + q)) = (List.range (z.length + 1)).map fun q => .ref (s.length + q) := by
    rw [List.range_succ_eq_map, List.map_cons, List.map_map]
    show D.ref s.length :: _ = D.ref (s.length + 0) :: _
    congr 1
    refine List.map_congr_left fun k _ => ?_
    show D.ref _ = D.ref _
    congr 1
    show s.length + 1 + k = s.length + (k + 1)
    omega
  rw [ecome]
  have hcome : ∀ q, q ≤ z.length → atI ((List.range (z.length + 1)).map fun q => D.ref (s.length + q)) ((q : Nat) : Int) = some (.ref (s.length + q)) := fun q hq => by
    rw [atI_in (by omega) (by rw [List.length_map, List.length_range]; omega), Int.toNat_natCast, List.getElem?_map, List.getElem?_range (by omega)]; rfl
  refine ⟨_, rfl, _, rfl, _, rfl, by omega, by omega, ?_⟩
  rw [Int.toNat_natCast]
  refine forD_run (fun rest env s' => ∃ (p : Nat) (ES : List Sr.Es) (o4 o5 o6 o7 o8 o9 o10 o11 o12 : Option D), rest = rangeD (p : Nat) (z.length - p) ∧ p ≤ z.length ∧ ES.length = z.length + 1 ∧ (∀ es ∈ ES, EsOk (rows.length - 1) es) ∧
    (∀ b, Sr.BOk (Wf ws rows z) (jn rows) (rows.length - 1) z.length b → Sr.totL b p (ES.drop p) = b 0 (rows.length - 1)) ∧ s' = s ++ ES.map dkOf ∧
    env = [some (.tup [.lst ws, .lst rows]), some (.str z), some (.lst rows), some (.lst ((List.range (z.length + 1)).map fun q => .ref (s.length + q))), o4, o5, o6, o7, o8, o9, o10, o11, o12]) ?_ ?_ ⟨0, [(rows.length - 1, (0 : Int), (1 : Int))] :: List.replicate z.length [], none, none, none, none, none, none, none, none, none, rfl, Nat.zero_le _, by simp, ?_, ?_, rfl, rfl⟩
  · rintro d rest env s' ⟨p, ES, o4, o5, o6, o7, o8, o9, o10, o11, o12, hr, hp, hEl, hEo, hT, rfl, rfl⟩ N hN
    have hp1 : p < z.length := by
      rcases Nat.lt_or_ge p z.length with h | h
      · exact h
      · rw [show z.length - p = 0 by omega] at hr; cases hr
    rw [show z.length - p = (z.length - (p + 1)) + 1 by omega, rangeD_cons] at hr
    injection hr with hd hr
    subst hd
    obtain ⟨es0, hes0⟩ : ∃ es0, ES[p]? = some es0 := ⟨_, List.getElem?_eq_getElem (by omega)⟩
    have hok0 := hEo es0 (List.mem_of_getElem? hes0)
    refine ⟨trivial, ?_⟩
    refine ⟨s.length + p, dvOf es0, st_get hes0, ?_⟩
    have gp : ∀ {ES' : List Sr.Es}, ES'.length = z.length + 1 → (stL s p es0 ES')[s.length + p]? = some (some (dvOf es0).lmo) := fun h => stL_p (by omega)
    refine ⟨_, rfl, _, rfl, _, hcome p hp, s.length + p, dvOf es0, rfl, gp hEl, ?_, ?_⟩
    · intro x hx
      obtain ⟨y, hy, rfl⟩ := List.mem_map.mp hx
      exact trivial
    have hkeys : (dvOf es0).keys = es0.map fun q => D.int ((q.1 : Nat) : Int) := by
      show (es0.map conv).map (fun p => kD p.1) = _
      rw [List.map_map]; rfl
    rw [hkeys]
    refine forD_run (fun rest env s' => ∃ (done rem : Sr.Es) (ES' : List Sr.Es) (o5 o6 o7 o8 o9 o10 o11 : Option D), rest = rem.map (fun q => D.int ((q.1 : Nat) : Int)) ∧ es0 = done ++ rem ∧ ES'.length = z.length + 1 ∧ ES'[p]? = some es0 ∧ (∀ es ∈ ES', EsOk (rows.length - 1) es) ∧
      (∀ b, Sr.BOk (Wf ws rows z) (jn rows) (rows.length - 1) z.length b → Sr.ad (Sr.totL b (p + 1) (ES'.drop (p + 1))) (Sr.tot b p rem) = b 0 (rows.length - 1)) ∧ s' = stL s p es0 ES' ∧
      env = [some (.tup [.lst ws, .lst rows]), some (.str z), some (.lst rows), some (.lst ((List.range (z.length + 1)).map fun q => .ref (s.length + q))), some (.int (p : Nat)), o5, o6, o7, o8, o9, o10, o11, o12]) ?_ ?_ ⟨[], es0, ES, o5, o6, o7, o8, o9, o10, o11, rfl, rfl, hEl, hes0, hEo, fun b hb => ?_, rfl, rfl⟩
    · rintro d rest env s' ⟨done, rem, ES', o5, o6, o7, o8, o9, o10, o11, hrest, hdn, hEl', hesp, hEo', hT', rfl, rfl⟩ N2 hN2
      obtain ⟨⟨k, c, w⟩, rem', rfl⟩ : ∃ x rem', rem = x :: rem' := by
        cases rem with
        | nil => cases hrest
        | cons x r => exact ⟨x, r, rfl⟩
      rw [List.map_cons] at hrest
      injection hrest with hd hrest
      subst hd
      have hmem : (k, c, w) ∈ es0 := by rw [hdn]; simp
      have hk : k < rows.length := by have := hok0.kd _ hmem; have h : k ≤ rows.length - 1 := this; omega
      have hgk : getP (es0.map conv) (.inl ((k : Nat) : Int)) = some (.tup [.int c, .int w]) := by
        rw [getP_conv, getP_memN hok0.nd hmem]; rfl
      refine ⟨gp hEl', ?_⟩
      refine ⟨_, rfl, _, rfl, _, hcome p hp, _, rfl, dvOf es0, .tup [.int c, .int w], dictD_lmo (gp hEl'), ?_, _, rfl, rfl, ?_⟩
      · show some (getP (es0.map conv) (.inl ((k : Nat) : Int))) = _
        rw [hgk]
      refine ⟨_, rfl, _, rfl, _, rfl, ws, rows, z, p, _, rfl, hB.ww, by omega, by omega, by omega, hp1, _, _, isW_lst, ?_⟩
      obtain ⟨L, r1, r2, _⟩ := row_at hB.rr hk
      refine forD_run (fun wl env s' => ∃ (dw : List D) (ES' : List Sr.Es) (o8 o9 o10 o11 : Option D), ws.filter (standsAt z.cps.toList p) ++ [rawD (z.cps.toList.getD p 0) ((rows.length : Int) - 1)] = dw ++ wl ∧ ES'.length = z.length + 1 ∧ ES'[p]? = some es0 ∧ (∀ es ∈ ES', EsOk (rows.length - 1) es) ∧
        (∀ b, Sr.BOk (Wf ws rows z) (jn rows) (rows.length - 1) z.length b → Sr.ad (Sr.ad (Sr.totL b (p + 1) (ES'.drop (p + 1))) (Sr.tot b p rem')) (Sr.sm (wl.map fun x => Sr.sc (c + jn rows k (kd x) + cs x) w (b (p + (rdOf x).length) (kd x)))) = b 0 (rows.length - 1)) ∧ s' = stL s p es0 ES' ∧
        env = [some (.tup [.lst ws, .lst rows]), some (.str z), some (.lst rows), some (.lst ((List.range (z.length + 1)).map fun q => .ref (s.length + q))), some (.int (p : Nat)), some (.int (k : Nat)), some (.int c), some (.int w), o8, o9, o10, o11, o12]) ?_ ?_ ⟨[], ES', o8, o9, o10, o11, rfl, hEl', hesp, hEo', fun b hb => ?_, rfl, rfl⟩
      · rintro x wl env s' ⟨dw, ES', o8, o9, o10, o11, hdw, hEl', hesp, hEo', hT', rfl, rfl⟩ N3 hN3
        have hx : x ∈ stRow ws ((rows.length : Int) - 1) z.cps.toList p := by
          have : x ∈ ws.filter (standsAt z.cps.toList p) ++ [rawD (z.cps.toList.getD p 0) ((rows.length : Int) - 1)] := by rw [hdw]; simp
          rcases List.mem_append.mp this with h | h
          · exact List.mem_cons_of_mem _ h
          · rw [List.mem_singleton.mp h]; exact List.mem_cons_self
        obtain ⟨r, wr, ex, e1, e2, e3, e4⟩ := stRow_shape hB hp1 hx
        have hq : p + (rdOf x).length ≤ z.length := by omega
        have hpq : p ≠ p + (rdOf x).length := by omega
        obtain ⟨es, hes⟩ : ∃ es, ES'[p + (rdOf x).length]? = some es := ⟨_, List.getElem?_eq_getElem (by omega)⟩
        have hoke := hEo' es (List.mem_of_getElem? hes)
        have hel := hoke.len
        have gq := stL_q (s := s) (es0 := es0) hes hpq
        have hnxt : ∀ (v12 : D) (v11 : D) (ES2 : List Sr.Es), ES2 = ES'.set (p + (rdOf x).length) (Sr.upd es (kd x) (c + jn rows k (kd x) + cs x) w) → N3 [some (.tup [.lst ws, .lst rows]), some (.str z), some (.lst rows), some (.lst ((List.range (z.length + 1)).map fun q => .ref (s.length + q))), some (.int (p : Nat)), some (.int (k : Nat)), some (.int c), some (.int w), some x, some (.ref (s.length + (p + (rdOf x).length))), some v12, some v11, o12] (stL s p es0 ES2) := fun v12 v11 ES2 e => by
          subst e
          refine hN3 _ _ ⟨dw ++ [x], _, _, _, _, _, by rw [hdw]; simp, by rw [List.length_set]; exact hEl', by rw [List.getElem?_set_ne (by omega)]; exact hesp, fun es' he => ?_, fun b hb => ?_, rfl, rfl⟩
          · rcases List.mem_or_eq_of_mem_set he with h | h
            · exact hEo' es' h
            · rw [h]
              exact ⟨Sr.upd_nd hoke.nd, Sr.upd_kd (by omega) hoke.kd⟩
          · have hw := hT' b hb
            rw [List.map_cons] at hw
            rw [tot_word (by omega) hes (Sr.tot_upd hoke.nd)]
            rw [← hw]
            show _ = Sr.ad _ (Sr.ad _ _)
            rw [Sr.ad_assoc (Sr.totL b (p + 1) (ES'.drop (p + 1))), Sr.ad_comm (Sr.sc _ _ _) (Sr.tot b p rem'), ← Sr.ad_assoc (Sr.totL b (p + 1) (ES'.drop (p + 1))), Sr.ad_assoc _ (Sr.sc _ _ _)]
        have r2' := fun s => r2 s (kd x) e4
        have hcq := hcome _ hq
        have hupd : Sr.upd es (kd x) (c + jn rows k (kd x) + cs x) w = match getP es (kd x) with | none => putP es (kd x) (c + jn rows k (kd x) + cs x, w) | some (c0, w0) => if c + jn rows k (kd x) + cs x < c0 then putP es (kd x) (c + jn rows k (kd x) + cs x, w) else if c + jn rows k (kd x) + cs x = c0 then putP es (kd x) (c + jn rows k (kd x) + cs x, w0 + w) else es := rfl
        have hsame : ES'.set (p + (rdOf x).length) es = ES' := by
          obtain ⟨hl, he⟩ := List.getElem?_eq_some_iff.mp hes
          rw [← he, List.set_getElem_self]
        have put : ∀ v : Int × Int, (stL s p es0 ES').set (s.length + (p + (rdOf x).length)) (some (DV.k (putP (es.map conv) (.inl ((kd x : Nat) : Int)) (pvD v))).mo) = stL s p es0 (ES'.set (p + (rdOf x).length) (putP es (kd x) v)) := fun v => by
          rw [putP_conv]
          exact stL_set hpq
        have hgc := getP_conv (es := es) (k := kd x)
        generalize hc : cs x = cc at ex hnxt hupd
        generalize hkd : kd x = o at ex e4 hnxt r2' hupd put hgc
        generalize hl : (rdOf x).length = l at e1 hq hpq hes gq hnxt hcq hsame put
        subst ex
        generalize hH : c + jn rows k o + cc = H at hnxt hupd
        have hlen : (DV.k (es.map conv)).len < sizeLine := Nat.lt_of_le_of_lt (by show (es.map conv).length ≤ 1000; rw [List.length_map]; omega) (Nat.lt_of_lt_of_le (by decide : 1000 < 100000) (le_line (by decide)))
        refine ⟨trivial, ?_⟩
        have hcq' : ∀ s' : Sto, idxF s' (.lst ((List.range (z.length + 1)).map fun q => D.ref (s.length + q))) (.int (((p : Nat) : Int) + (r.length : Int))) = some (.ref (s.length + (p + l))) := fun s' => by
          show atI _ _ = _
          rw [show ((p : Nat) : Int) + (r.length : Int) = ((p + l : Nat) : Int) by omega]
          exact hcq
        refine ⟨_, rfl, _, rfl, _, rfl, _, rfl, _, rfl, _, rfl, _, hcq' _, ?_⟩
        refine ⟨_, rfl, _, rfl, _, rfl, _, r1 _, _, rfl, _, rfl, _, r2' _, _, rfl, _, rfl, _, rfl, _, rfl, ?_⟩
        rw [hH]
        refine ⟨_, rfl, by rw [dictD_mo gq]; rfl, _, rfl, _, rfl, _, rfl, _, rfl, Dl.ll, dvOf es, getP (es.map conv) (.inl ((o : Nat) : Int)), dictD_mo gq, rfl, ?_⟩
        rw [hgc]
        cases hgp : getP es o with
        | none =>
          rw [hgp] at hupd
          refine ⟨_, rfl, _, rfl, _, rfl, _, rfl, _, rfl, ifD (fun _ => ?_) fun h => absurd (show H < H + 1 by omega) h⟩
          refine ⟨_, rfl, _, rfl, Dl.ll, _, rfl, _, rfl, _, rfl, _, dvOf es, .k (putP (es.map conv) (.inl ((o : Nat) : Int)) (pvD (H, w))), rfl, dictM_mo gq, rfl, hlen, ?_⟩
          rw [put]
          exact hnxt _ _ _ (by rw [hupd])
        | some v0 =>
          obtain ⟨c0, w0⟩ := v0
          rw [hgp] at hupd
          refine ⟨_, rfl, _, rfl, _, rfl, _, rfl, _, rfl, ifD (fun h1 => ?_) fun h1 => ?_⟩
          · have h1' : H < c0 := h1
            refine ⟨_, rfl, _, rfl, Dl.ll, _, rfl, _, rfl, _, rfl, _, dvOf es, .k (putP (es.map conv) (.inl ((o : Nat) : Int)) (pvD (H, w))), rfl, dictM_mo gq, rfl, hlen, ?_⟩
            rw [put]
            refine hnxt _ _ _ ?_
            rw [hupd]
            show _ = ES'.set _ (if H < c0 then putP es o (H, w) else if H = c0 then putP es o (H, w0 + w) else es)
            rw [if_pos h1']
          · have h1' : ¬ H < c0 := h1
            refine ⟨_, rfl, _, rfl, _, rfl, _, eq_ii, _, rfl, ifB (fun h2 => ?_) fun h2 => ?_⟩
            · have h2' : H = c0 := eq_of_beq h2
              refine ⟨_, rfl, _, rfl, _, rfl, _, rfl, _, rfl, Dl.ll, _, rfl, _, rfl, _, rfl, _, dvOf es, .k (putP (es.map conv) (.inl ((o : Nat) : Int)) (pvD (H, w0 + w))), rfl, dictM_mo gq, rfl, hlen, ?_⟩
              rw [put]
              refine hnxt _ _ _ ?_
              rw [hupd]
              show _ = ES'.set _ (if H < c0 then putP es o (H, w) else if H = c0 then putP es o (H, w0 + w) else es)
              rw [if_neg h1', if_pos h2']
            · have h2' : ¬ H = c0 := ne_of_beq_false h2
              refine hnxt _ _ _ ?_
              rw [hupd]
              show _ = ES'.set _ (if H < c0 then putP es o (H, w) else if H = c0 then putP es o (H, w0 + w) else es)
              rw [if_neg h1', if_neg h2', hsame]
      · rintro env s' ⟨dw, ES', o8, o9, o10, o11, hdw, hEl', hesp, hEo', hT', rfl, rfl⟩
        refine ⟨trivial, hN2 _ _ ⟨done ++ [(k, c, w)], rem', ES', _, _, _, _, _, _, _, hrest, by rw [hdn]; simp, hEl', hesp, hEo', fun b hb => ?_, rfl, rfl⟩⟩
        have := hT' b hb
        rwa [List.map_nil, show Sr.sm [] = none from rfl, Sr.ad_none] at this
      · rw [← way_on hb hp1 k c w]
        have := hT' b hb
        rw [Sr.tot_cons] at this
        rw [← this, Sr.ad_assoc, Sr.ad_comm (Sr.tot b p rem')]
    · rintro env s' ⟨done, rem, ES', o5, o6, o7, o8, o9, o10, o11, hrest, hdn, hEl', hesp, hEo', hT', rfl, rfl⟩
      have hrem : rem = [] := by
        cases rem with
        | nil => rfl
        | cons x r => cases hrest
      subst hrem
      refine ⟨gp hEl', gp hEl', ?_⟩
      rw [stL_un hesp]
      refine hN _ _ ⟨p + 1, ES', _, _, _, _, _, _, _, _, _, by rw [hr]; push_cast; rfl, hp1, hEl', hEo', fun b hb => ?_, rfl, rfl⟩
      have := hT' b hb
      rwa [show Sr.tot b p [] = none from rfl, Sr.ad_none] at this
    · have := hT b hb
      obtain ⟨hl, he⟩ := List.getElem?_eq_some_iff.mp hes0
      rw [← List.getElem_cons_drop hl, he] at this
      rw [← this, Sr.ad_comm]; rfl
  · rintro env s' ⟨p, ES, o4, o5, o6, o7, o8, o9, o10, o11, o12, hr, hp, hEl, hEo, hT, rfl, rfl⟩
    have hpn : p = z.length := by
      have := congrArg List.length hr
      simp [rangeD] at this
      omega
    subst hpn
    obtain ⟨es, hes⟩ : ∃ es, ES[z.length]? = some es := ⟨_, List.getElem?_eq_getElem (by omega)⟩
    refine ⟨trivial, _, rfl, q ES ⟨hEl, hEo, es, hes, fun b hb => ?_⟩⟩
    have := hT b hb
    obtain ⟨hl, he⟩ := List.getElem?_eq_some_iff.mp hes
    rw [← List.getElem_cons_drop hl, he, List.drop_eq_nil_of_le (by omega)] at this
    rw [← this]
    show _ = Sr.ad _ none
    rw [Sr.ad_none]
  · intro es hes
    rcases List.mem_cons.mp hes with rfl | h
    · exact ⟨by simp, fun p hp => by rw [List.mem_singleton.mp hp]; exact Nat.le_refl _⟩
    · rw [(List.mem_replicate.mp h).2]
      exact ⟨List.nodup_nil, fun p hp => nomatch hp⟩
  · intro b hb
    have hrep : ∀ n q, Sr.totL b q (List.replicate n []) = none := fun n => by
      induction n with
      | zero => intro q; rfl
      | succ n ih => intro q; rw [List.replicate_succ]; show Sr.ad none _ = _; rw [ih]; rfl
    show Sr.ad (Sr.ad (Sr.sc 0 1 (b 0 (rows.length - 1))) none) (Sr.totL b 1 (List.replicate z.length [])) = _
    rw [hrep, Sr.ad_none, Sr.ad_none, Sr.sc_one]
end
end Qk11
set_option Elab.async false
set_option linter.all false
set_option autoImplicit false
set_option maxRecDepth 100000
set_option maxHeartbeats 4000000
namespace Qk11
open PySem PySem.Spec PyProof.Rows L2 Dl Bk Fb
open Fa (strL ifD ifB ifT ifF fapp strL_length strL_cps)
/-- what a way that came to the end costs -/
def aE (rows : List D) (p : Nat × Int × Int) : Int := p.2.1 + jn rows p.1 (rows.length - 1)
def fst2 : D → D
  | .tup (x :: _) => x
  | _ => .non
def snd2 : D → D
  | .tup (_ :: x :: _) => x
  | _ => .non
theorem sum_l2 (l : List Int) {s : Sto} : sumF s [.lst (l.map D.int)] = some (.int l.sum) := Fb.sum_l l
section
variable (ds : List D) (s : Sto) (Q : D → Sto → Prop) (E : XD)
theorem pf__law_least (h : sp__law_least ds s Q E) : b__law_least (endsOf Q) (envD ["book", "reading", "joins", "row", "ends", "least", "kind", "cost", "ways"] ds) s := by
  obtain ⟨m, ws, rows, z, rfl, hG, q⟩ := h
  have hB := hG.b
  have hrl := hB.rl
  have hz2 := hG.l
  have hr0 : 1 ≤ rows.length := List.length_pos_iff.mpr hB.r0
  refine ⟨_, rfl, _, rfl, ?_⟩
  refine ⟨_, rfl, _, rfl, m, ws, rows, z, rfl, hG, fun ES hF => ?_⟩
  obtain ⟨es, hes, htot⟩ := hF.fin
  have hok := hF.ok es (List.mem_of_getElem? hes)
  have hel := hok.len
  have hlast : ∀ s' : Sto, idxF s' (.lst ((List.range (z.length + 1)).map fun q => D.ref (s.length + q))) (.int (-1)) = some (.ref (s.length + z.length)) := fun s' => by
    show atI ((List.range (z.length + 1)).map fun q => D.ref (s.length + q)) (-1) = _
    rw [atI_last (by simp), List.getLast_eq_getElem]
    simp
  refine ⟨_, rfl, _, hlast _, ?_⟩
  have hne : es ≠ [] := fun e => by
    have h1 := htot _ (bF_ok hB)
    rw [e, (bF_eq hB _ 0 rfl (Nat.zero_le _) (rows.length - 1)).1] at h1
    cases h1
  have hall : ∀ b, Sr.BOk (Wf ws rows z) (jn rows) (rows.length - 1) z.length b → b 0 (rows.length - 1) = some (minI (es.map (aE rows)), ((es.filter fun p => aE rows p == minI (es.map (aE rows))).map fun p => p.2.2).sum) := fun b hb => by
    rw [← htot b hb, ← Sr.sm_some (aE rows) (fun p => p.2.2) es hne]
    unfold Sr.tot
    congr 1
    refine List.map_congr_left fun p _ => ?_
    rw [hb.fin]
    show some (p.2.1 + jn rows p.1 (rows.length - 1), p.2.2 * 1) = _
    rw [Int.mul_one]; rfl
  refine ⟨s.length + z.length, dvOf es, st_get hes, ?_⟩
  have gl : ((s ++ ES.map dkOf).set (s.length + z.length) (some (dvOf es).lmo))[s.length + z.length]? = some (some (dvOf es).lmo) := by
    rw [List.getElem?_set_self (by rw [List.length_append, List.length_map, hF.len]; omega)]
  have hkeys : (dvOf es).keys = es.map fun q => D.int ((q.1 : Nat) : Int) := by
    show (es.map conv).map (fun p => kD p.1) = _
    rw [List.map_map]; rfl
  refine ⟨_, rfl, _, dvOf es, rfl, gl, ?_, le_line (by rw [hkeys, List.length_map]; omega), ?_⟩
  · intro x hx
    obtain ⟨y, hy, rfl⟩ := List.mem_map.mp hx
    exact trivial
  rw [hkeys]
  refine lcD_pure (fun _ => true) (fun d => match d with | .int k => (match getP es k.toNat with | some v => .tup [.int (v.1 + jn rows k.toNat (rows.length - 1)), .int v.2] | none => .non) | _ => .non) gl (fun d hd k1 k0 h1 h0 => ?_) ?_
  · obtain ⟨⟨k, c, w⟩, hp, rfl⟩ := List.mem_map.mp hd
    have hk : k < rows.length := by have h : k ≤ rows.length - 1 := hok.kd _ hp; omega
    obtain ⟨L, r1, _, r3⟩ := row_at hB.rr hk
    have hg : getP es k = some (c, w) := getP_memN hok.nd hp
    have hgk : (dvOf es).get (.int ((k : Nat) : Int)) = some (some (.tup [.int c, .int w])) := by
      show some (getP (es.map conv) (.inl ((k : Nat) : Int))) = _
      rw [getP_conv, hg]; rfl
    have h := h1 rfl
    simp only [Int.toNat_natCast, hg] at h
    exact ⟨_, rfl, _, rfl, dvOf es, _, dictD_lmo gl, hgk, _, rfl, _, rfl, _, rfl, _, r1 _, _, rfl, _, r3 _, _, rfl, _, rfl, _, rfl, dvOf es, _, dictD_lmo gl, hgk, _, rfl, Dl.ll, h⟩
  rw [List.filter_eq_self.mpr (fun _ _ => rfl), List.map_map]
  have eE : es.map ((fun d => match d with | D.int k => (match getP es k.toNat with | some v => D.tup [.int (v.1 + jn rows k.toNat (rows.length - 1)), .int v.2] | none => .non) | _ => .non) ∘ fun q => D.int ((q.1 : Nat) : Int)) = es.map fun p => D.tup [.int (aE rows p), .int p.2.2] := List.map_congr_left fun p hp => by
    show (match getP es ((p.1 : Nat) : Int).toNat with | some v => D.tup [.int (v.1 + jn rows ((p.1 : Nat) : Int).toNat (rows.length - 1)), .int v.2] | none => .non) = _
    rw [Int.toNat_natCast, getP_memN hok.nd hp]; rfl
  rw [eE]
  refine ⟨gl, ?_⟩
  have hback : ((s ++ ES.map dkOf).set (s.length + z.length) (some (dvOf es).lmo)).set (s.length + z.length) (some (dvOf es).mo) = s ++ ES.map dkOf := stL_un hes
  rw [hback]
  refine ⟨_, rfl, _, _, isW_lst, le_line (by rw [List.length_map]; omega), ?_⟩
  refine lcD_pure (fun _ => true) fst2 trivial (fun d hd k1 k0 h1 h0 => ?_) ?_
  · obtain ⟨p, hp, rfl⟩ := List.mem_map.mp hd
    exact ⟨_, rfl, rfl, _, rfl, h1 rfl⟩
  rw [List.filter_eq_self.mpr (fun _ _ => rfl), List.map_map]
  have e1 : es.map (fst2 ∘ fun p => D.tup [.int (aE rows p), .int p.2.2]) = (es.map (aE rows)).map D.int := by rw [List.map_map]; rfl
  rw [e1]
  refine ⟨_, min_l (by simpa using hne), ?_⟩
  refine ⟨_, rfl, _, rfl, _, _, isW_lst, le_line (by rw [List.length_map]; omega), ?_⟩
  refine lcD_pure (fun d => match d with | .tup (.int a :: _) => a == minI (es.map (aE rows)) | _ => false) snd2 trivial (fun d hd k1 k0 h1 h0 => ?_) ?_
  · obtain ⟨p, hp, rfl⟩ := List.mem_map.mp hd
    refine ⟨_, rfl, rfl, _, rfl, _, rfl, _, eq_ii, _, rfl, ifB (fun ht => ⟨_, rfl, h1 ht⟩) fun ht => h0 ht⟩
  rw [List.filter_map, List.map_map]
  have e2 : (es.filter ((fun d => match d with | D.tup (.int a :: _) => a == minI (es.map (aE rows)) | _ => false) ∘ fun p => D.tup [.int (aE rows p), .int p.2.2])).map (snd2 ∘ fun p => D.tup [.int (aE rows p), .int p.2.2]) = ((es.filter fun p => aE rows p == minI (es.map (aE rows))).map fun p => p.2.2).map D.int := by rw [List.map_map]; rfl
  rw [e2]
  refine ⟨_, sum_l2 _, Dl.ll, ?_⟩
  exact q (_, _) _ hall
end
end Qk11
set_option Elab.async false
set_option linter.all false
set_option autoImplicit false
set_option maxRecDepth 100000
set_option maxHeartbeats 600000
namespace Qk11
open PySem PySem.Spec PyProof.Rows L2 Dl Bk Fb
open Od (cheapL fstW stW srtW lnW drS drS_len drS_cps drS_drS drS_sgn cheap_drop fst_split hd_cons hd_cost hd_all hd_end hd_least all_st Gvn leL keyP pairP inD st_part st_mem st_ok mem_all stW_st)
open Fa (strL ifD ifB ifT ifF fapp strL_length strL_cps)
section
variable (ds : List D) (s : Sto) (Q : D → Sto → Prop) (E : XD)
theorem part_sz {m : Nat} {ws rows : List D} {x : D} (hB : BookOk m ws rows) (h : Part ws ((rows.length : Int) - 1) x) : szB 100 x = true := by
  have hrl := hB.rl
  rcases h with h | ⟨c, hc, rfl⟩
  · exact (hB.ww x h).sz (by omega)
  · have hB : 1000000000000 ≤ big := by decide
    refine sz_tup.mpr ⟨by show 4 ≤ 100; decide, fun y hy => ?_⟩
    rcases (by simpa using hy : y = D.str ⟨#[c]⟩ ∨ y = .int 1000 ∨ y = .int ((rows.length : Int) - 1)) with rfl | rfl | rfl
    · rw [sz_str]; show 1 ≤ 100; decide
    · rw [sz_int]; omega
    · rw [sz_int]; omega
theorem cheap_eq {ws rows : List D} {z : Str} {k : Nat} : cheapL ws rows z k = fstW ws rows z 0 k := rfl
theorem cheap_part {m : Nat} {ws rows : List D} {z : Str} {k : Nat} (G : Gvn m ws rows z) : ∀ x ∈ cheapL ws rows z k, Part ws ((rows.length : Int) - 1) x := (all_st G (hd_all G 0 k)).1
theorem cheap_flat {m : Nat} {ws rows : List D} {z : Str} {k : Nat} (G : Gvn m ws rows z) : ((cheapL ws rows z k).map rdOf).flatten = z.cps.toList := by
  rw [cheap_eq, (all_st G (hd_all G 0 k)).2, List.drop_zero]
theorem cheap_len {m : Nat} {ws rows : List D} {z : Str} {k : Nat} (G : Gvn m ws rows z) : (cheapL ws rows z k).length ≤ 40 := Nat.le_trans (Od.all_len G (hd_all G 0 k)) G.zl
theorem pf_is_split (h : sp_is_split ds s Q E) : b_is_split (endsOf Q) (envD ["book", "reading", "thing"] ds) s := by
  obtain ⟨m, ws, rows, z, k, rfl, GG, hk, q⟩ := h
  have G := GG.gvn
  have hB := GG.b
  have hrl := hB.rl
  have hwl := hB.wl
  have hm := GG.m
  have z1 := GG.a
  have z2 := GG.l
  have hcl := cheap_len G (k := k)
  have hr1 : 1 ≤ rows.length := by omega
  refine ⟨_, rfl, _, rfl, _, _, rfl, szB_mono (by decide) _ (hB.sz hm), hB.isBk, sz_str.mpr (by show _ ≤ 1000000; omega), ?_, ?_⟩
  · show (sgnIn az z && (decide (1 ≤ (z.length : Int)) && decide ((z.length : Int) ≤ 40))) = true
    rw [GG.s, decide_eq_true (by omega), decide_eq_true (by omega)]; rfl
  refine ⟨_, rfl, _, rfl, _, rfl, ws, rows, z, _, _, rfl, hB.ww, by omega, hr1, by omega, sz_lst.mpr ⟨by omega, fun x hx => szB_mono (by decide) _ (part_sz hB (cheap_part G x hx))⟩, ?_⟩
  rw [fst_split G z1]
  exact q
theorem pf__law_key (h : sp__law_key ds s Q E) : b__law_key (endsOf Q) (envD ["book", "split", "start", "joins", "kinds", "found", "word", "k"] ds) s := by
  obtain ⟨m, ws, rows, xs, k, rfl, hB, hm, hxl, hP, hk, q⟩ := h
  have hrl := hB.rl
  have hL := sizeLine_eq
  have hr1 : 1 ≤ rows.length := by omega
  have hsh : ∀ x ∈ xs, ∃ (r w : Str) (c : Int) (k : Nat), x = .tup [.str r, .str w, .int c, .int (k : Nat)] ∧ k < rows.length ∧ 1 ≤ r.length ∧ r.length ≤ 40 := fun x hx => part_shape (hP x hx) hB.ww hr1
  have he : ((rows.length : Int) - 1) = ((rows.length - 1 : Nat) : Int) := by omega
  have hr : ∀ n, (rangeD 0 n).length = n := fun n => by simp [rangeD]
  have hkl : ∀ y ∈ k :: (xs.map kd ++ [rows.length - 1]), y < rows.length := by
    intro y hy
    rcases List.mem_cons.mp hy with rfl | hy
    · exact hk
    · rcases List.mem_append.mp hy with hy | hy
      · obtain ⟨x, hx, rfl⟩ := List.mem_map.mp hy
        obtain ⟨r, w, c, k2, rfl, h2, _⟩ := hsh x hx
        exact h2
      · rw [List.mem_singleton.mp hy]; omega
  refine ⟨_, rfl, _, rfl, ?_⟩
  refine ⟨_, rfl, Dl.ll, _, rfl, _, _, isW_lst, le_line (by omega), ?_⟩
  refine lcD_pure (fun _ => true) (fun x => .int (kd x : Nat)) trivial (fun w hw k1 k0 h1 h0 => ?_) ?_
  · obtain ⟨r, wr, cc, kk, rfl, _⟩ := hsh w hw
    exact ⟨_, rfl, _, rfl, h1 rfl⟩
  rw [List.filter_eq_self.mpr (fun _ _ => rfl)]
  refine ⟨_, addl (le_line (by rw [List.length_map]; show 1 + _ ≤ _; omega)), _, rfl, _, rfl, _, rfl, Dl.ll, _, addl (le_line (by simp; omega)), ?_⟩
  have ek : [D.int (k : Nat)] ++ xs.map (fun x => D.int (kd x : Nat)) ++ [D.int ((rows.length : Int) - 1)] = (k :: (xs.map kd ++ [rows.length - 1])).map fun (n : Nat) => D.int (n : Nat) := by
    rw [he]; simp
  rw [ek]
  have hkk : (k :: (xs.map kd ++ [rows.length - 1])).length = xs.length + 2 := by simp
  refine ⟨_, rfl, _, _, isW_lst, le_line (by omega), ?_⟩
  refine lcD_pure (fun _ => true) (fun x => .int (cs x)) trivial (fun w hw k1 k0 h1 h0 => ?_) ?_
  · obtain ⟨r, wr, cc, kk, rfl, _⟩ := hsh w hw
    exact ⟨_, rfl, _, rfl, h1 rfl⟩
  rw [List.filter_eq_self.mpr (fun _ _ => rfl)]
  have ec : xs.map (fun x => D.int (cs x)) = (xs.map cs).map D.int := by rw [List.map_map]; rfl
  rw [ec]
  refine ⟨_, sum_l _, ?_⟩
  refine ⟨_, rfl, _, rfl, _, rfl, _, rfl, by rw [List.length_map]; omega, by rw [List.length_map]; omega, le_line (by rw [hr, List.length_map]; omega), ?_⟩
  have hen : ((((k :: (xs.map kd ++ [rows.length - 1])).map fun (n : Nat) => D.int (n : Nat)).length : Int) - 1).toNat = (k :: (xs.map kd ++ [rows.length - 1])).length - 1 := by rw [List.length_map]; omega
  rw [hen]
  generalize hks : (k :: (xs.map kd ++ [rows.length - 1])) = ks at hkl hkk ⊢
  have hat : ∀ (i : Nat) s, i < ks.length → idxF s (.lst (ks.map fun (n : Nat) => D.int (n : Nat))) (.int (i : Nat)) = some (.int ((ks.getD i 0 : Nat) : Int)) := fun i s hi => by
    rw [idx_l, atI_in (by omega) (by rw [List.length_map]; omega), Int.toNat_natCast, List.getElem?_map, List.getElem?_eq_getElem hi, List.getD_eq_getElem?_getD, List.getElem?_eq_getElem hi]; rfl
  have hlt : ∀ i, i < ks.length → ks.getD i 0 < rows.length := fun i hi => by
    rw [List.getD_eq_getElem?_getD, List.getElem?_eq_getElem hi]
    exact hkl _ (List.getElem_mem hi)
  refine lcD_pure (fun _ => true) (fun x => .int (match x with | .int i => jn rows (ks.getD i.toNat 0) (ks.getD (i.toNat + 1) 0) | _ => 0)) trivial (fun w hw k1 k0 h1 h0 => ?_) ?_
  · obtain ⟨i, hi, rfl⟩ := List.mem_map.mp hw
    have hi' := List.mem_range.mp hi
    obtain ⟨L, L1, L2, L3⟩ := row_at hB.rr (hlt i (by omega))
    have h3 := h1 rfl
    rw [show (0 : Int) + (i : Nat) = (i : Nat) by omega] at h3 ⊢
    refine ⟨_, rfl, _, rfl, _, rfl, _, hat i _ (by omega), _, L1 _, _, rfl, _, rfl, _, rfl, _, hat (i + 1) _ (by omega), _, L2 _ _ (hlt (i + 1) (by omega)), ?_⟩
    exact h3
  rw [List.filter_eq_self.mpr (fun _ _ => rfl)]
  have ep : (rangeD 0 (ks.length - 1)).map (fun x => D.int (match x with | .int i => jn rows (ks.getD i.toNat 0) (ks.getD (i.toNat + 1) 0) | _ => 0)) = ((List.range (ks.length - 1)).map fun i => jn rows (ks.getD i 0) (ks.getD (i + 1) 0)).map D.int := by
    unfold rangeD
    rw [List.map_map, List.map_map]
    refine List.map_congr_left fun i _ => ?_
    show D.int (jn rows (ks.getD ((0 : Int) + (i : Nat)).toNat 0) (ks.getD (((0 : Int) + (i : Nat)).toNat + 1) 0)) = _
    rw [show ((0 : Int) + (i : Nat)).toNat = i by omega]; rfl
  rw [ep]
  refine ⟨_, sum_l _, _, rfl, ?_⟩
  have := prS_cost rows xs k
  rw [hks] at this
  unfold prS at this
  rw [Int.add_comm] at this
  rw [this]
  refine ⟨_, rfl, _, rfl, _, rfl, _, rfl, _, _, isW_lst, le_line (by omega), ?_⟩
  refine lcD_pure (fun _ => true) pairD trivial (fun w hw k1 k0 h1 h0 => ?_) ?_
  · obtain ⟨r, wr, cc, kk, rfl, _⟩ := hsh w hw
    exact ⟨_, rfl, _, rfl, _, rfl, h1 rfl⟩
  rw [List.filter_eq_self.mpr (fun _ _ => rfl)]
  exact ⟨Dl.ll, q⟩
end
end Qk11
set_option Elab.async false
set_option linter.all false
set_option autoImplicit false
set_option maxRecDepth 100000
set_option maxHeartbeats 600000
namespace Qk11
open PySem PySem.Spec PyProof.Rows L2 Dl Bk Fb
open Od (cheapL fstW stW srtW lnW drS drS_len drS_cps drS_drS drS_sgn cheap_drop fst_split hd_cons hd_cost hd_all hd_end hd_least all_st Gvn leL pairP inD st_part st_mem st_ok mem_all stW_st all_wok Wok pair_form alike_pairs depth_pairs)
open Fa (strL ifD ifB ifT ifF fapp strL_length strL_cps leP eq_self_lst eq_self_w eq_self_raw)
theorem ne_lst_self {s : Sto} {L : List D} (hW : ∀ x ∈ L, eqN 59 x x = some true) : neF s (.lst L) (.lst L) = some (.bl false) := by
  have e : eqN 60 (.lst L) (.lst L) = some true := eq_self_lst hW
  unfold neF
  rw [Fa.drf_lst, e]; rfl
theorem part_eq {m : Nat} {ws rows : List D} {x : D} (hB : BookOk m ws rows) (h : Part ws ((rows.length : Int) - 1) x) : eqN 59 x x = some true := by
  rcases h with h | ⟨c, hc, rfl⟩
  · exact eq_self_w (n := 57) (hB.ww x h)
  · exact eq_self_raw (n := 57)
theorem cut_dr {α : Type} {l : List α} {n : Nat} (h : n ≤ l.length) : Dl.cutD l (some ((n : Nat) : Int)) none = l.drop n := by
  unfold Dl.cutD
  have e1 : HT.sIx l.length 0 (some ((n : Nat) : Int)) = n := by
    unfold HT.sIx
    simp
    rw [if_neg (by omega)]
    omega
  have e2 : HT.sIx l.length l.length none = l.length := rfl
  rw [e1, e2]
  exact List.take_of_length_le (by rw [List.length_drop]; exact Nat.le_refl _)
theorem slice_dr {s : Sto} {z : Str} {n : Nat} (h : n ≤ z.length) : sliceF s (.str z) (some ((n : Nat) : Int)) none = some (.str (drS z n)) := by
  show some (D.str ⟨(Dl.cutD z.cps.toList (some ((n : Nat) : Int)) none).toArray⟩) = _
  rw [cut_dr (by rw [cps_len]; exact h)]; rfl
theorem kt_key (rows : List D) (k : Nat) (l : List D) : PySem.W.keyToks (pyD (kyD rows k l)) = PySem.W.keyToks (Od.keyP rows k l) := by
  have e : pyL (l.map pairD) = l.map pairP := by
    induction l with
    | nil => rfl
    | cons x l ih => rw [List.map_cons, pyL, ih]; rfl
  unfold kyD Od.keyP
  simp only [pyD, pyL, e, PySem.W.keyToks, PySem.W.keyToksAll]
theorem py_key (rows : List D) (k : Nat) (l : List D) : pyD (kyD rows k l) = .tuple [.int (costF rows k l), .int (l.length : Nat), .list (l.map pairP)] := by
  have e : pyL (l.map pairD) = l.map pairP := by
    induction l with
    | nil => rfl
    | cons x l ih => rw [List.map_cons, pyL, ih]; rfl
  unfold kyD
  simp only [pyD, pyL, e]
theorem lt_false {rows : List D} {k : Nat} {a b : List D} (ha : ∀ x ∈ a, Wok x) (hb : ∀ x ∈ b, Wok x) (h : leL rows k b a = true) {s : Sto} : ltDF s (kyD rows k a) (kyD rows k b) = some (.bl false) := by
  have sq : ∀ l : List D, (∀ x ∈ l, Wok x) → seqsL (l.map pairD) = true := fun l => by
    induction l with
    | nil => intro _; rfl
    | cons x l ih =>
      intro hl
      obtain ⟨r, w, c, kk, rfl, _⟩ := hl x List.mem_cons_self
      have := ih fun y hy => hl y (List.mem_cons_of_mem _ hy)
      show (seqs (.tup [.str r, .str w]) && seqsL (l.map pairD)) = true
      rw [this]; rfl
  have sk : ∀ l : List D, (∀ x ∈ l, Wok x) → seqs (kyD rows k l) = true := fun l hl => by
    show (seqs (.int (costF rows k l)) && (seqs (inD l.length) && (seqsL (l.map pairD) && true))) = true
    rw [sq l hl]; rfl
  have al : PySem.W.alike (pyD (kyD rows k a)) (pyD (kyD rows k b)) = true := by
    rw [py_key, py_key]
    simp [PySem.W.alike, PySem.W.alikeAll, alike_pairs _ _ (pair_form ha) (pair_form hb)]
  have dp : (pyD (kyD rows k a)).depth ≤ 40 := by
    have := depth_pairs _ (pair_form ha)
    rw [py_key]
    simp [PyData.depth, PyData.depthAll]
    omega
  have nn : notNone (pyD (kyD rows k a)) = true := by rw [py_key]; rfl
  have ok : ltOk (kyD rows k a) (kyD rows k b) = true := by
    unfold ltOk
    rw [sk a ha, sk b hb, al, nn, decide_eq_true dp]; rfl
  have hd : PySem.W.dataLt (pyD (kyD rows k a)) (pyD (kyD rows k b)) = false := by
    have e : PySem.W.dataLt (pyD (kyD rows k a)) (pyD (kyD rows k b)) = PySem.W.dataLt (Od.keyP rows k a) (Od.keyP rows k b) := by
      show PyProof.Rows.lexLt _ _ _ = PyProof.Rows.lexLt _ _ _
      rw [kt_key, kt_key]
    rw [e]
    unfold leL leP at h
    cases hx : PySem.W.dataLt (Od.keyP rows k a) (Od.keyP rows k b) with
    | false => rfl
    | true => rw [hx] at h; cases h
  unfold ltDF
  rw [if_pos ok, hd]
section
variable (ds : List D) (s : Sto) (Q : D → Sto → Prop) (E : XD)
theorem fr_tail {Ed : EndsD} {m k : Nat} {ws rows : List D} {z : Str} {x : D} {x5 x6 : Option D} (GG : Gv m ws rows z) (hk : k < rows.length) (hx : x ∈ stW ws rows z 0) (nx : Ed.nx [some (.tup [.lst ws, .lst rows]), some (.str z), some (inD k), some (.lst (cheapL ws rows z k)), some (kyD rows k (cheapL ws rows z k)), x5, x6, some (.lst (x :: fstW ws rows z (0 + lnW x) (kd x)))] s) :
    (dIfS (dTest (dBin (oF ltDF) (dCall sp__law_key [] (dCons (dVar 0) (dCons (dVar 7) (dCons (dVar 2) dNil)))) (dVar 4))) (dRet (dC (.bl false))) dNext) Ed [some (.tup [.lst ws, .lst rows]), some (.str z), some (inD k), some (.lst (cheapL ws rows z k)), some (kyD rows k (cheapL ws rows z k)), x5, x6, some (.lst (x :: fstW ws rows z (0 + lnW x) (kd x)))] s := by
  have G := GG.gvn
  have hm := (mem_all G.ok (Nat.lt_of_lt_of_le Nat.zero_lt_one GG.a)).mpr ⟨x, _, rfl, hx, hd_all G (0 + lnW x) (kd x)⟩
  have hl := Od.all_len G hm
  have zl := GG.l
  refine ⟨_, rfl, _, rfl, _, rfl, m, ws, rows, _, k, rfl, GG.b, GG.m, by omega, (all_st G hm).1, hk, ?_⟩
  exact ⟨_, rfl, _, lt_false (all_wok G hm) (all_wok G (hd_all G 0 k)) (hd_least G hm), _, rfl, ifF nx⟩
theorem pf__law_first_right (h : sp__law_first_right ds s Q E) : b__law_first_right (endsOf Q) (envD ["book", "left", "start", "told", "key", "word", "rest", "other"] ds) s := by
  obtain ⟨m, ws, rows, z, k, rfl, GG, hk, q⟩ := h
  have G := GG.gvn
  have hB := GG.b
  have hrl := hB.rl
  have hwl := hB.wl
  have hm := GG.m
  have z1 := GG.a
  have z2 := GG.l
  have hL := sizeLine_eq
  have hcl := cheap_len G (k := k)
  have hcp := cheap_part G (k := k)
  refine ⟨_, rfl, _, rfl, _, rfl, m, ws, rows, z, inD k, k, rfl, G, z1, hk, .inr rfl, fun s1 l1 b1 => ?_⟩
  refine ⟨_, rfl, _, ne_lst_self fun x hx => part_eq hB (hcp x hx), _, rfl, ifF ?_⟩
  dsimp only [dNext]
  refine ⟨_, rfl, _, rfl, _, rfl, m, ws, rows, _, k, rfl, hB, hm, by omega, hcp, hk, ?_⟩
  refine ⟨_, rfl, _, rfl, ws, rows, z, 0, _, rfl, hB.ww, by omega, by omega, by omega, by omega, ?_⟩
  refine ⟨_, _, isW_lst, ?_⟩
  refine forD_run (fun rest env s' => ∃ (x5 x6 x7 : Option D), (∀ d ∈ rest, d ∈ stW ws rows z 0) ∧ env = [some (.tup [.lst ws, .lst rows]), some (.str z), some (inD k), some (.lst (cheapL ws rows z k)), some (kyD rows k (cheapL ws rows z k)), x5, x6, x7] ∧ s.length ≤ s'.length ∧ ∀ j, j < s.length → s'[j]? = s[j]?) ?_ ?_ ⟨none, none, none, fun d hd => ?_, rfl, l1, b1⟩
  · rintro x rest env s2 ⟨x5, x6, x7, hd, rfl, l2, b2⟩ N hN
    have hx := hd x List.mem_cons_self
    obtain ⟨_, n1, n2⟩ := st_ok hB hx
    obtain ⟨rd, w, c, kx, rfl, hkx, ekd, eln, ecs, epr⟩ := Od.st_shape G hx
    refine ⟨trivial, ?_⟩
    have hnl : rd.length ≤ z.length := by rw [← eln]; omega
    refine ⟨_, rfl, _, rfl, _, rfl, _, rfl, _, rfl, _, slice_dr hnl, ?_⟩
    refine ⟨_, rfl, Dl.ll, ?_⟩
    refine ⟨_, rfl, _, ne_ss, _, rfl, ?_⟩
    have nx : ∀ s3, s.length ≤ s3.length → (∀ j, j < s.length → s3[j]? = s[j]?) → ∀ o, o = D.lst (.tup [.str rd, .str w, .int c, inD kx] :: fstW ws rows z (0 + lnW (.tup [.str rd, .str w, .int c, inD kx])) (kd (.tup [.str rd, .str w, .int c, inD kx]))) → (dIfS (dTest (dBin (oF ltDF) (dCall sp__law_key [] (dCons (dVar 0) (dCons (dVar 7) (dCons (dVar 2) dNil)))) (dVar 4))) (dRet (dC (.bl false))) dNext) ⟨N, (endsOf Q).rt, N, N⟩ [some (.tup [.lst ws, .lst rows]), some (.str z), some (inD k), some (.lst (cheapL ws rows z k)), some (kyD rows k (cheapL ws rows z k)), some (.tup [.str rd, .str w, .int c, inD kx]), some (.str (drS z rd.length)), some o] s3 := by
      rintro s3 l3 b3 o rfl
      exact fr_tail s3 GG hk hx (hN _ _ ⟨_, _, _, fun d h => hd d (List.mem_cons_of_mem _ h), rfl, l3, b3⟩)
    by_cases hz : rd.length = z.length
    · have e : drS z rd.length = "" := by rw [hz]; exact Od.drS_all z
      rw [e]
      refine ifF ?_
      dsimp only [dNext]
      have := nx s2 l2 b2 (.lst [.tup [.str rd, .str w, .int c, inD kx]]) (by rw [hd_end G (by rw [eln]; omega)])
      rw [e] at this
      exact this
    · have hne : (drS z rd.length == "") = false := by
        rw [beq_eq_false_iff_ne]
        intro e
        have := drS_len z rd.length
        rw [e] at this
        have h0 : ("" : Str).length = 0 := rfl
        omega
      rw [hne]
      refine ifT ?_
      have h1 : 1 ≤ (drS z rd.length).length := by rw [drS_len]; omega
      have h2 : (drS z rd.length).length ≤ 40 := by rw [drS_len]; omega
      have G2 : Gvn m ws rows (drS z rd.length) := ⟨hB, hm, drS_sgn GG.s _, h2⟩
      refine ⟨_, rfl, _, rfl, _, rfl, _, rfl, _, rfl, m, ws, rows, drS z rd.length, inD kx, kx, rfl, G2, h1, hkx, .inr rfl, fun s3 l3 b3 => ?_⟩
      have hc2 := cheap_len G2 (k := kx)
      refine ⟨_, addl (by show 1 + _ ≤ _; omega), ?_⟩
      refine nx s3 (by omega) (fun j hj => (b3 j (by omega)).trans (b2 j hj)) _ ?_
      rw [cheap_drop hnl, Nat.zero_add]; rfl
  · rintro env s2 ⟨x5, x6, x7, _, rfl, l2, b2⟩
    exact ⟨trivial, q s2 l2 b2⟩
  · rw [stW_st (by omega)]
    rcases List.mem_append.mp hd with hd | hd
    · exact List.mem_cons_of_mem _ hd
    · rw [List.mem_singleton.mp hd]
      exact List.mem_cons_self
end
end Qk11
set_option Elab.async false
set_option linter.all false
set_option autoImplicit false
set_option maxRecDepth 100000
set_option maxHeartbeats 600000
namespace Qk11
open PySem PySem.Spec PyProof.Rows L2 Dl Bk Fb
open Od (sp_cheapest cheapL fstW stW srtW lnW drS drS_len drS_cps drS_drS drS_sgn drS_zero drS_all cheap_drop fst_split hd_cons hd_cost hd_all hd_end hd_least all_st Gvn leL pairP inD st_part st_mem st_ok mem_all stW_st all_wok Wok pair_form alike_pairs depth_pairs)
open Fa (strL ifD ifB ifT ifF fapp strL_length strL_cps eq_self_lst eq_self_w eq_self_raw)
theorem rep_sgn {a : Str} {n : Nat} {r : Str} (h : sgnIn r a = true) : ∀ c ∈ (repS a n).cps.toList, c ∈ r.cps.toList := fun c hc => by
  have hc : c ∈ (List.replicate n a.cps.toList).flatten := hc
  obtain ⟨l, hl, hc⟩ := List.mem_flatten.mp hc
  rw [(List.mem_replicate.mp hl).2] at hc
  exact of_decide_eq_true (List.all_eq_true.mp h c hc)
theorem wide_txt {a : Str} (h : sgnIn az a = true) (h1 : 1 ≤ a.length) (s : Sto) : ∃ t : Str, sliceF s (.str (repS a 40)) none (some 40) = some (.str t) ∧ sgnIn az t = true ∧ 1 ≤ t.length ∧ t.length ≤ 40 := by
  have hl : (repS a 40).cps.toList.length = 40 * a.length := by
    show ((List.replicate 40 a.cps.toList).flatten).length = _
    rw [List.length_flatten, List.map_replicate, List.sum_replicate_nat, cps_len]
  have e : Dl.cutD (repS a 40).cps.toList none (some 40) = (repS a 40).cps.toList.take 40 := by
    unfold Dl.cutD
    have e1 : HT.sIx (repS a 40).cps.toList.length 0 none = 0 := rfl
    have e2 : HT.sIx (repS a 40).cps.toList.length (repS a 40).cps.toList.length (some 40) = 40 := by
      unfold HT.sIx
      rw [hl]
      simp
      omega
    rw [e1, e2, List.drop_zero]
  refine ⟨strL ((repS a 40).cps.toList.take 40), ?_, ?_, ?_, ?_⟩
  · show some (D.str ⟨(Dl.cutD (repS a 40).cps.toList none (some 40)).toArray⟩) = _
    rw [e]; rfl
  · refine List.all_eq_true.mpr fun c hc => decide_eq_true ?_
    rw [strL_cps] at hc
    exact rep_sgn h c (List.mem_of_mem_take hc)
  · rw [strL_length, List.length_take, hl]; omega
  · rw [strL_length, List.length_take]; omega
theorem rng_drop {n i : Nat} {d : D} {rest : List D} (h : d :: rest = (rangeD 0 n).drop i) : i < n ∧ d = inD i ∧ rest = (rangeD 0 n).drop (i + 1) := by
  have hl : (rangeD 0 n).length = n := by simp [rangeD]
  have hi : i < n := by
    have := congrArg List.length h
    rw [List.length_cons, List.length_drop, hl] at this
    omega
  have hg : (rangeD 0 n)[i]? = some (inD i) := by
    unfold rangeD
    rw [List.getElem?_map, List.getElem?_range hi]
    show some (D.int (0 + (i : Nat))) = _
    rw [Int.zero_add]
  rw [drop_cons hg] at h
  obtain ⟨h1, h2⟩ := List.cons.inj h
  exact ⟨hi, h1, h2⟩
theorem range_mem {n : Nat} {d : D} (h : d ∈ rangeD 0 n) : ∃ i : Int, d = .int i ∧ 0 ≤ i ∧ i < n := by
  obtain ⟨i, hi, rfl⟩ := List.mem_map.mp h
  have := List.mem_range.mp hi
  exact ⟨_, rfl, by omega, by omega⟩
section
variable (ds : List D) (s : Sto) (Q : D → Sto → Prop) (E : XD)
theorem right_step {Ed : EndsD} {m p k0 kk i : Nat} {ws rows : List D} {t : Str} {x0 x1 x2 : Option D} (GG : Gv m ws rows t) (hp : p ≤ t.length) (hkk : kk < rows.length) (hi : i < (cheapL ws rows t k0).length) (hd : (cheapL ws rows t k0).drop i = fstW ws rows t p kk)
    (nx : ∀ s' p' kk', s.length ≤ s'.length → (∀ j, j < s.length → s'[j]? = s[j]?) → p' ≤ t.length → kk' < rows.length → (cheapL ws rows t k0).drop (i + 1) = fstW ws rows t p' kk' → Ed.nx [x0, x1, x2, some (.tup [.lst ws, .lst rows]), some (.str t), some (.lst (cheapL ws rows t k0)), some (.str (drS t p')), some (inD kk'), some (inD i)] s') :
    (dSeq (dIfS (dAnd (dOr (dTest (dBin (oF ltF) (dVar 8) (dC (.int 5)))) (dTest (dBin (oF eqF) (dBin oMod (dVar 8) (dC (.int 6))) (dC (.int 0))))) (dNot (dTest (dCall sp__law_first_right [] (dCons (dVar 3) (dCons (dVar 6) (dCons (dVar 7) (dCons (dSl (dVar 5) (dP (dVar 8)) dNoP) dNil)))))))) (dRet (dC (.bl false))) dNext) (dSeq (dAsg (dSl (dVar 6) (dP (dCB lenF (dCons (dBin (oF idxF) (dBin (oF idxF) (dVar 5) (dVar 8)) (dC (.int 0))) dNil))) dNoP) (gN 6)) (dAsg (dBin (oF idxF) (dBin (oF idxF) (dVar 5) (dVar 8)) (dC (.int 3))) (gN 7)))) Ed [x0, x1, x2, some (.tup [.lst ws, .lst rows]), some (.str t), some (.lst (cheapL ws rows t k0)), some (.str (drS t p)), some (inD kk), some (inD i)] s := by
  have G := GG.gvn
  have hcl := cheap_len G (k := k0)
  have hpl : p < t.length := by
    rcases Nat.lt_or_ge p t.length with h | h
    · exact h
    · rw [hd_end G h] at hd
      have := List.drop_eq_nil_iff.mp hd
      omega
  have GD : Gv m ws rows (drS t p) := ⟨GG.b, GG.m, drS_sgn GG.s p, by rw [drS_len]; omega, by rw [drS_len]; have := GG.l; omega⟩
  obtain ⟨x, hx, he⟩ := hd_cons G hpl kk
  obtain ⟨_, n1, n2⟩ := st_ok GG.b hx
  have hix : (cheapL ws rows t k0)[i]? = some x := by
    have := congrArg (fun l : List D => l[0]?) (hd.trans he)
    simpa using this
  have hdr : (cheapL ws rows t k0).drop (i + 1) = fstW ws rows t (p + lnW x) (kd x) := by
    rw [← List.drop_drop, hd, he]; rfl
  obtain ⟨rd, w, c, kx, rfl, hkx, ekd, eln, ecs, epr⟩ := Od.st_shape G hx
  rw [eln] at n1 n2 hdr
  rw [ekd] at hdr
  have hat : ∀ s', idxF s' (.lst (cheapL ws rows t k0)) (inD i) = some (.tup [.str rd, .str w, .int c, inD kx]) := fun s' => by
    rw [idx_l, atI_in (by omega) (by omega), Int.toNat_natCast, hix]
  have fin : ∀ s', s.length ≤ s'.length → (∀ j, j < s.length → s'[j]? = s[j]?) → (dSeq (dAsg (dSl (dVar 6) (dP (dCB lenF (dCons (dBin (oF idxF) (dBin (oF idxF) (dVar 5) (dVar 8)) (dC (.int 0))) dNil))) dNoP) (gN 6)) (dAsg (dBin (oF idxF) (dBin (oF idxF) (dVar 5) (dVar 8)) (dC (.int 3))) (gN 7))) Ed [x0, x1, x2, some (.tup [.lst ws, .lst rows]), some (.str t), some (.lst (cheapL ws rows t k0)), some (.str (drS t p)), some (inD kk), some (inD i)] s' := fun s' l' b' => by
    refine ⟨_, rfl, _, rfl, _, rfl, _, hat _, _, rfl, _, rfl, _, rfl, _, slice_dr (by rw [drS_len]; omega), ?_⟩
    refine ⟨_, rfl, _, rfl, _, hat _, _, rfl, ?_⟩
    rw [drS_drS]
    exact nx s' (p + rd.length) kx l' b' n2 hkx hdr
  have sl : ∀ s', sliceF s' (.lst (cheapL ws rows t k0)) (some ((i : Nat) : Int)) none = some (.lst (cheapL ws rows (drS t p) kk)) := fun s' => by
    rw [cheap_drop (Nat.le_of_lt hpl), ← hd]
    show some (D.lst (Dl.cutD _ _ _)) = _
    rw [cut_dr (by omega)]
  have call : ∀ R : Bool → Sto → Prop, (∀ s', s.length ≤ s'.length → (∀ j, j < s.length → s'[j]? = s[j]?) → R false s') → (dNot (dTest (dCall sp__law_first_right [] (dCons (dVar 3) (dCons (dVar 6) (dCons (dVar 7) (dCons (dSl (dVar 5) (dP (dVar 8)) dNoP) dNil))))))) [x0, x1, x2, some (.tup [.lst ws, .lst rows]), some (.str t), some (.lst (cheapL ws rows t k0)), some (.str (drS t p)), some (inD kk), some (inD i)] s R := fun R r => by
    refine ⟨_, rfl, _, rfl, _, rfl, _, rfl, _, rfl, _, rfl, _, sl s, m, ws, rows, drS t p, kk, rfl, GD, hkk, fun s' l' b' => ?_⟩
    exact ⟨_, rfl, r s' l' b'⟩
  have f0 := fin s (Nat.le_refl _) fun _ _ => rfl
  refine ⟨_, rfl, _, rfl, _, rfl, ifD (fun _ => ?_) fun _ => ?_⟩
  · exact ifT (call _ fun s' l' b' => ifF (fin s' l' b'))
  · refine ⟨_, rfl, _, _, rfl, rfl, (show (0 : Int) < 6 by decide), _, eq_ii, _, rfl, ifB (fun _ => ?_) fun _ => ?_⟩
    · exact call _ fun s' l' b' => ifF (fin s' l' b')
    · exact ifF f0
theorem right_rest {m : Nat} {ws rows : List D} {t : Str} {x0 x1 x2 : Option D} (GG : Gv m ws rows t) (q : ∀ s', Q (.bl true) s') :
    (dSeq (dAsg (dCall sp_cheapest [.non] (dCons (dVar 3) (dCons (dVar 4) dNil))) (gN 5)) (dSeq (dIfS (dOr (dTest (dBin (oF isNotBF) (dCall sp_is_split [] (dCons (dVar 3) (dCons (dVar 4) (dCons (dVar 5) dNil)))) (dC (.bl true)))) (dTest (dBin (oF neF) (dCall sp_cost_of [.non] (dCons (dVar 3) (dCons (dVar 5) dNil))) (dBin (oF idxF) (dCall sp__law_least [] (dCons (dVar 3) (dCons (dVar 4) dNil))) (dC (.int 0)))))) (dRet (dC (.bl false))) dNext) (dSeq (dAsg (dVar 4) (gN 6)) (dSeq (dAsg (dBin (oF subF) (dCB lenF (dCons (dBin (oF idxF) (dVar 3) (dC (.int 1))) dNil)) (dC (.int 1))) (gN 7)) (dSeq (dFor (iR1 (dCons (dCB lenF (dCons (dVar 5) dNil)) dNil)) (gN 8) (dSeq (dIfS (dAnd (dOr (dTest (dBin (oF ltF) (dVar 8) (dC (.int 5)))) (dTest (dBin (oF eqF) (dBin oMod (dVar 8) (dC (.int 6))) (dC (.int 0))))) (dNot (dTest (dCall sp__law_first_right [] (dCons (dVar 3) (dCons (dVar 6) (dCons (dVar 7) (dCons (dSl (dVar 5) (dP (dVar 8)) dNoP) dNil)))))))) (dRet (dC (.bl false))) dNext) (dSeq (dAsg (dSl (dVar 6) (dP (dCB lenF (dCons (dBin (oF idxF) (dBin (oF idxF) (dVar 5) (dVar 8)) (dC (.int 0))) dNil))) dNoP) (gN 6)) (dAsg (dBin (oF idxF) (dBin (oF idxF) (dVar 5) (dVar 8)) (dC (.int 3))) (gN 7))))) (dRet (dBin (oF eqF) (dVar 6) (dC (.str ""))))))))) (endsOf Q) [x0, x1, x2, some (.tup [.lst ws, .lst rows]), some (.str t), none, none, none, none] s := by
  have G := GG.gvn
  have hB := GG.b
  have hrl := hB.rl
  have t1 := GG.a
  have t2 := GG.l
  have hr1 : 1 ≤ rows.length := G.r1
  have hk : rows.length - 1 < rows.length := by omega
  have hcl := cheap_len G (k := rows.length - 1)
  have hcp := cheap_part G (k := rows.length - 1)
  have hcf := cheap_flat G (k := rows.length - 1)
  have hne : cheapL ws rows t (rows.length - 1) ≠ [] := fun h => by
    rw [h] at hcf
    have := congrArg List.length hcf
    rw [cps_len] at this
    have : 0 = t.length := this
    omega
  have he : ((rows.length : Int) - 1) = ((rows.length - 1 : Nat) : Int) := by omega
  refine ⟨_, rfl, _, rfl, m, ws, rows, t, .non, rows.length - 1, rfl, G, t1, hk, .inl ⟨rfl, rfl⟩, fun s1 l1 b1 => ?_⟩
  refine ⟨_, rfl, _, rfl, _, rfl, m, ws, rows, t, rows.length - 1, rfl, GG, hk, _, rfl, _, rfl, ifF ?_⟩
  refine ⟨_, rfl, _, rfl, m, ws, rows, _, .non, rows.length - 1, rfl, hB, GG.m, hne, by omega, hcp, by rw [hcf, cps_len]; exact t2, hk, .inl ⟨rfl, rfl⟩, ?_⟩
  refine ⟨_, rfl, _, rfl, m, ws, rows, t, rfl, GG, fun cc u hcc => ?_⟩
  have hc : costF rows (rows.length - 1) (cheapL ws rows t (rows.length - 1)) = cc.1 := by
    have h1 := hd_cost G t.length 0 (rows.length - 1) (Nat.le_refl _) (Nat.zero_le _)
    have h2 := hcc _ (bF_ok hB)
    show costF rows (rows.length - 1) (fstW ws rows t 0 (rows.length - 1)) = _
    rw [h1]
    unfold rF
    rw [h2]; rfl
  refine ⟨_, rfl, _, ne_ii, _, rfl, ?_⟩
  rw [hc, beq_self_eq_true]
  refine ifF ?_
  dsimp only [dNext]
  refine ⟨_, rfl, ?_⟩
  refine ⟨_, rfl, _, rfl, _, rfl, _, rfl, ?_⟩
  rw [he]
  refine ⟨_, rfl, _, rfl, _, rfl, by omega, by omega, ?_⟩
  refine forD_run (fun rest env s' => ∃ (i p kk : Nat) (x8 : Option D), rest = (rangeD 0 (cheapL ws rows t (rows.length - 1)).length).drop i ∧ i ≤ (cheapL ws rows t (rows.length - 1)).length ∧ p ≤ t.length ∧ kk < rows.length ∧ (cheapL ws rows t (rows.length - 1)).drop i = fstW ws rows t p kk ∧ env = [x0, x1, x2, some (.tup [.lst ws, .lst rows]), some (.str t), some (.lst (cheapL ws rows t (rows.length - 1))), some (.str (drS t p)), some (inD kk), x8]) ?_ ?_ ⟨0, 0, rows.length - 1, none, ?_, Nat.zero_le _, Nat.zero_le _, hk, rfl, by rw [drS_zero]; rfl⟩
  · rintro d rest env s2 ⟨i, p, kk, x8, hr, hi, hp, hkk, hd, rfl⟩ N hN
    obtain ⟨hil, rfl, hrest⟩ := rng_drop hr
    refine ⟨trivial, ?_⟩
    exact right_step s2 GG hp hkk hil hd fun s3 p' kk' l3 b3 hp' hkk' hd' => hN _ _ ⟨i + 1, p', kk', _, hrest, hil, hp', hkk', hd', rfl⟩
  · rintro env s2 ⟨i, p, kk, x8, hr, hi, hp, hkk, hd, rfl⟩
    refine ⟨trivial, ?_⟩
    have hlen := congrArg List.length hr
    have hrl : (rangeD 0 (cheapL ws rows t (rows.length - 1)).length).length = (cheapL ws rows t (rows.length - 1)).length := by simp [rangeD]
    rw [List.length_nil, List.length_drop, hrl] at hlen
    rw [List.drop_eq_nil_of_le (by omega)] at hd
    have hpz : p = t.length := by
      rcases Nat.lt_or_ge p t.length with h | h
      · obtain ⟨x, _, e⟩ := hd_cons G h kk
        rw [e] at hd; cases hd
      · omega
    rw [hpz, drS_all]
    exact ⟨_, rfl, _, eq_ss, q _⟩
  · rw [List.drop_zero]
    congr 1
theorem pf__law_right (h : sp__law_right ds s Q E) : b__law_right (endsOf Q) (envD ["pot", "wide", "letters", "book", "reading", "told", "left", "start", "k"] ds) s := by
  obtain ⟨c, p, b, rfl, S, hc, q⟩ := h
  refine ⟨_, rfl, c, p, rfl, S, by omega, fun z s1 hz z1 z2 S1 K1 l1 => ?_⟩
  refine ⟨_, rfl, _, rfl, _, p, z, 10, rfl, by decide, by decide, hz, z1, z2, S1, by omega, fun ws rows s2 hB hrl S2 K2 => ?_⟩
  have hwl : ws.length ≤ 10 := hB.wl
  refine ⟨_, rfl, _, rfl, _, rfl, _, p, ws, _, _, z, 24, rfl, hB.ww, by show ws.length ≤ 1000; omega, hz, z1, z2, by decide, by decide, S2, by omega, fun t s3 ht t1 t2 S3 K3 l3 => ?_⟩
  have G0 : Gv 10 ws rows t := ⟨hB, by decide, ht, t1, by omega⟩
  refine ⟨_, rfl, _, rfl, ?_⟩
  cases b with
  | false => exact ifF (ifF (right_rest s3 Q G0 q))
  | true =>
    refine ifT ?_
    refine ⟨_, rfl, _, p, 4, rfl, S3, by omega, by decide, by decide, fun i4 s4 a4 b4 S4 K4 l4 => ?_⟩
    refine ⟨_, eq_ii, _, rfl, ifB (fun _ => ?_) fun _ => right_rest s4 Q G0 q⟩
    obtain ⟨t', h1, h2, h3, h4⟩ := wide_txt ht t1 s4
    refine ⟨_, rfl, .inr ⟨_, if_pos ⟨by show 40 * _ ≤ _; omega, by omega, by decide, by decide⟩, _, rfl, _, h1, ?_⟩⟩
    exact right_rest s4 Q ⟨hB, by decide, h2, h3, h4⟩ q
theorem pf_law (h : spLaw ds s Q E) : b_law (endsOf Q) (envD ["script", "k"] ds) s := by
  obtain ⟨ns, rfl, hn, hb, rfl, q⟩ := h
  (repeat (first | refine ⟨_, rfl, ?_⟩ | refine ⟨trivial, ?_⟩ | refine ⟨Dl.ll, ?_⟩ | refine ⟨_, _, isW_lst, Dl.ll, ?_⟩))
  have hm1 : (if (if ((ns.map D.int).length : Int) < 6 then ((ns.map D.int).length : Int) else 6) > 1 then (if ((ns.map D.int).length : Int) < 6 then ((ns.map D.int).length : Int) else 6) else (1 : Int)) ≤ 10 := by split <;> split at * <;> omega
  have hm0 : 0 ≤ (if (if ((ns.map D.int).length : Int) < 6 then ((ns.map D.int).length : Int) else 6) > 1 then (if ((ns.map D.int).length : Int) < 6 then ((ns.map D.int).length : Int) else 6) else (1 : Int)) := by split <;> omega
  refine ⟨by omega, by omega, ?_⟩
  refine forD_run (fun rest env s => ∃ (a : Option D), (∀ d ∈ rest, ∃ i : Int, d = .int i ∧ 0 ≤ i ∧ i ≤ 100) ∧ env = [some (.frl (ns.map .int)), a]) ?_ ?_ ?_
  · rintro d rest env s ⟨a, hd, rfl⟩ N hN
    obtain ⟨i, rfl, i0, i1⟩ := hd d List.mem_cons_self
    refine ⟨trivial, ?_⟩
    refine ⟨_, rfl, _, rfl, ns, i, rfl, i0, i1, fun s1 S1 _ _ => ⟨_, rfl, _, eq_ii, 0, _, _, rfl, S1, by decide, fun s2 => ⟨_, rfl, ?_⟩⟩⟩
    exact hN _ _ ⟨_, fun d' h' => hd d' (List.mem_cons_of_mem _ h'), rfl⟩
  · rintro env s ⟨a, hd, rfl⟩
    exact ⟨trivial, q _⟩
  · refine ⟨none, fun d hd => ?_, rfl⟩
    obtain ⟨i, rfl, i0, i1⟩ := range_mem hd
    exact ⟨i, rfl, i0, by omega⟩
end
end Qk11
set_option Elab.async false
set_option linter.all false
set_option autoImplicit false
set_option maxRecDepth 100000
set_option maxHeartbeats 4000000
namespace Qk11
open PySem PySem.Spec PyProof.Rows L2 Dl
open Bk Fb
open Od
theorem kn__law_take {P : Program} {w : World} {K : PySem.W.Frag} {mg : Str → Option Value} {base : Heap} (T : Tx K mg) (a : At K mg "_law_take" s__law_take ["pot", "many"]) : Kn P w K mg base "_law_take" 1 ["pot", "many"] sp__law_take :=
  Kn.mk a sc__law_take mono__law_take len__law_take (d__law_take T) pf__law_take
theorem kn__law_letters {P : Program} {w : World} {K : PySem.W.Frag} {mg : Str → Option Value} {base : Heap} (T : Tx K mg) (a : At K mg "_law_letters" s__law_letters ["pot"]) (c__law_take : Kn P w K mg base "_law_take" 1 ["pot", "many"] sp__law_take) : Kn P w K mg base "_law_letters" 2 ["pot"] sp__law_letters :=
  Kn.mk a sc__law_letters mono__law_letters len__law_letters (d__law_letters T c__law_take) pf__law_letters
theorem kn__law_cost {P : Program} {w : World} {K : PySem.W.Frag} {mg : Str → Option Value} {base : Heap} (T : Tx K mg) (a : At K mg "_law_cost" s__law_cost ["pot", "way"]) (c__law_take : Kn P w K mg base "_law_take" 1 ["pot", "many"] sp__law_take) : Kn P w K mg base "_law_cost" 2 ["pot", "way"] sp__law_cost :=
  Kn.mk a sc__law_cost mono__law_cost len__law_cost (d__law_cost T c__law_take) pf__law_cost
theorem kn__law_word {P : Program} {w : World} {K : PySem.W.Frag} {mg : Str → Option Value} {base : Heap} (T : Tx K mg) (a : At K mg "_law_word" s__law_word ["pot", "letters", "kinds", "way"]) (c__law_take : Kn P w K mg base "_law_take" 1 ["pot", "many"] sp__law_take) (c__law_cost : Kn P w K mg base "_law_cost" 2 ["pot", "way"] sp__law_cost) : Kn P w K mg base "_law_word" 3 ["pot", "letters", "kinds", "way"] sp__law_word :=
  Kn.mk a sc__law_word mono__law_word len__law_word (d__law_word T c__law_take c__law_cost) pf__law_word
theorem kn__law_book {P : Program} {w : World} {K : PySem.W.Frag} {mg : Str → Option Value} {base : Heap} (T : Tx K mg) (a : At K mg "_law_book" s__law_book ["pot", "letters", "most"]) (c__law_take : Kn P w K mg base "_law_take" 1 ["pot", "many"] sp__law_take) (c__law_word : Kn P w K mg base "_law_word" 3 ["pot", "letters", "kinds", "way"] sp__law_word) (c__law_cost : Kn P w K mg base "_law_cost" 2 ["pot", "way"] sp__law_cost) : Kn P w K mg base "_law_book" 4 ["pot", "letters", "most"] sp__law_book :=
  Kn.mk a sc__law_book mono__law_book len__law_book (d__law_book T c__law_take c__law_word c__law_cost) pf__law_book
theorem kn__law_reading {P : Program} {w : World} {K : PySem.W.Frag} {mg : Str → Option Value} {base : Heap} (T : Tx K mg) (a : At K mg "_law_reading" s__law_reading ["pot", "book", "letters", "most"]) (c__law_take : Kn P w K mg base "_law_take" 1 ["pot", "many"] sp__law_take) : Kn P w K mg base "_law_reading" 2 ["pot", "book", "letters", "most"] sp__law_reading :=
  Kn.mk a sc__law_reading mono__law_reading len__law_reading (d__law_reading T c__law_take) pf__law_reading
theorem kn_is_small {P : Program} {w : World} {K : PySem.W.Frag} {mg : Str → Option Value} {base : Heap} (T : Tx K mg) (a : At K mg "is_small" s_is_small ["thing"]) : Kn P w K mg base "is_small" 1 ["thing"] sp_is_small :=
  Kn.mk a sc_is_small mono_is_small len_is_small (d_is_small T) pf_is_small
theorem kn_is_reading {P : Program} {w : World} {K : PySem.W.Frag} {mg : Str → Option Value} {base : Heap} (T : Tx K mg) (a : At K mg "is_reading" s_is_reading ["thing"]) (c_is_small : Kn P w K mg base "is_small" 1 ["thing"] sp_is_small) : Kn P w K mg base "is_reading" 2 ["thing"] sp_is_reading :=
  Kn.mk a sc_is_reading mono_is_reading len_is_reading (d_is_reading T c_is_small) pf_is_reading
theorem kn_is_writing {P : Program} {w : World} {K : PySem.W.Frag} {mg : Str → Option Value} {base : Heap} (T : Tx K mg) (a : At K mg "is_writing" s_is_writing ["thing"]) : Kn P w K mg base "is_writing" 1 ["thing"] sp_is_writing :=
  Kn.mk a sc_is_writing mono_is_writing len_is_writing (d_is_writing T) pf_is_writing
theorem kn_is_count {P : Program} {w : World} {K : PySem.W.Frag} {mg : Str → Option Value} {base : Heap} (T : Tx K mg) (a : At K mg "is_count" s_is_count ["thing"]) : Kn P w K mg base "is_count" 1 ["thing"] sp_is_count :=
  Kn.mk a sc_is_count mono_is_count len_is_count (d_is_count T) pf_is_count
theorem kn_is_word {P : Program} {w : World} {K : PySem.W.Frag} {mg : Str → Option Value} {base : Heap} (T : Tx K mg) (a : At K mg "is_word" s_is_word ["thing"]) (c_is_reading : Kn P w K mg base "is_reading" 2 ["thing"] sp_is_reading) (c_is_writing : Kn P w K mg base "is_writing" 1 ["thing"] sp_is_writing) (c_is_count : Kn P w K mg base "is_count" 1 ["thing"] sp_is_count) : Kn P w K mg base "is_word" 3 ["thing"] sp_is_word :=
  Kn.mk a sc_is_word mono_is_word len_is_word (d_is_word T c_is_reading c_is_writing c_is_count) pf_is_word
theorem kn_are_joins {P : Program} {w : World} {K : PySem.W.Frag} {mg : Str → Option Value} {base : Heap} (T : Tx K mg) (a : At K mg "are_joins" s_are_joins ["thing"]) (c_is_count : Kn P w K mg base "is_count" 1 ["thing"] sp_is_count) : Kn P w K mg base "are_joins" 2 ["thing"] sp_are_joins :=
  Kn.mk a sc_are_joins mono_are_joins len_are_joins (d_are_joins T c_is_count) pf_are_joins
theorem kn_is_book {P : Program} {w : World} {K : PySem.W.Frag} {mg : Str → Option Value} {base : Heap} (T : Tx K mg) (a : At K mg "is_book" s_is_book ["thing"]) (c_is_word : Kn P w K mg base "is_word" 3 ["thing"] sp_is_word) (c_are_joins : Kn P w K mg base "are_joins" 2 ["thing"] sp_are_joins) : Kn P w K mg base "is_book" 4 ["thing"] sp_is_book :=
  Kn.mk a sc_is_book mono_is_book len_is_book (d_is_book T c_is_word c_are_joins) pf_is_book
theorem kn_need_both {P : Program} {w : World} {K : PySem.W.Frag} {mg : Str → Option Value} {base : Heap} (T : Tx K mg) (a : At K mg "need_both" s_need_both ["book", "reading"]) (c_is_book : Kn P w K mg base "is_book" 4 ["thing"] sp_is_book) (c_is_reading : Kn P w K mg base "is_reading" 2 ["thing"] sp_is_reading) : Kn P w K mg base "need_both" 5 ["book", "reading"] sp_need_both :=
  Kn.mk a sc_need_both mono_need_both len_need_both (d_need_both T c_is_book c_is_reading) pf_need_both
theorem kn_grp {P : Program} {w : World} {K : PySem.W.Frag} {mg : Str → Option Value} {base : Heap} (T : Tx K mg) (a_Order_split_ahead : AtM K "Order" "split_ahead" "Order.split_ahead" s_Order_split_ahead ["self", "place", "kind", "word", "rank"]) (a_Order_split_begun : AtM K "Order" "split_begun" "Order.split_begun" s_Order_split_begun ["self", "place", "kind"]) (a_Order_split_at : AtM K "Order" "split_at" "Order.split_at" s_Order_split_at ["self", "place", "kind", "rank"]) : ∀ n : Nat, KnM P w K mg base CX0 "Order" "split_at" (3 * n + 1) ["self", "place", "kind", "rank"] (sp_Order_split_atN n)
  | 0 => KnM.no a_Order_split_at sc_Order_split_at
  | n + 1 =>
    have h0 := kn_grp T a_Order_split_ahead a_Order_split_begun a_Order_split_at n
    have h1 : KnM P w K mg base CX0 "Order" "split_ahead" (3 * n + 1 + 1) ["self", "place", "kind", "word", "rank"] (sp_Order_split_aheadN n) := KnM.mk a_Order_split_ahead sc_Order_split_ahead mono_Order_split_ahead len_Order_split_ahead (d_Order_split_ahead T h0) (fun ds s Q E h => pf_Order_split_ahead ds s Q E n h)
    have h2 : KnM P w K mg base CX0 "Order" "split_begun" (3 * n + 1 + 1 + 1) ["self", "place", "kind"] (sp_Order_split_begunN n) := KnM.mk a_Order_split_begun sc_Order_split_begun mono_Order_split_begun len_Order_split_begun (d_Order_split_begun T h1) (fun ds s Q E h => pf_Order_split_begun ds s Q E n h)
    have h3 : KnM P w K mg base CX0 "Order" "split_at" (3 * n + 1 + 1 + 1 + 1) ["self", "place", "kind", "rank"] (sp_Order_split_atN (n + 1)) := KnM.mk a_Order_split_at sc_Order_split_at mono_Order_split_at len_Order_split_at (d_Order_split_at T h2 (KnM.up h1 (Nat.le_succ _))) (fun ds s Q E h => pf_Order_split_at ds s Q E n h)
    h3
theorem kn_Order_split_at {P : Program} {w : World} {K : PySem.W.Frag} {mg : Str → Option Value} {base : Heap} (T : Tx K mg) (a_Order_split_ahead : AtM K "Order" "split_ahead" "Order.split_ahead" s_Order_split_ahead ["self", "place", "kind", "word", "rank"]) (a_Order_split_begun : AtM K "Order" "split_begun" "Order.split_begun" s_Order_split_begun ["self", "place", "kind"]) (a_Order_split_at : AtM K "Order" "split_at" "Order.split_at" s_Order_split_at ["self", "place", "kind", "rank"]) : KnM P w K mg base CX0 "Order" "split_at" 127 ["self", "place", "kind", "rank"] sp_Order_split_at := kn_grp T a_Order_split_ahead a_Order_split_begun a_Order_split_at 42
theorem kn_standing {P : Program} {w : World} {K : PySem.W.Frag} {mg : Str → Option Value} {base : Heap} (T : Tx K mg) (a : At K mg "standing" s_standing ["book", "reading"]) : Kn P w K mg base "standing" 1 ["book", "reading"] sp_standing :=
  Kn.mk a sc_standing mono_standing len_standing (d_standing T) pf_standing
theorem kn_Order___init__ {P : Program} {w : World} {K : PySem.W.Frag} {mg : Str → Option Value} {base : Heap} (T : Tx K mg) (a : AtI K mg "Order" "Order.__init__" s_Order___init__ ["self", "book", "reading"]) (c_standing : Kn P w K mg base "standing" 1 ["book", "reading"] sp_standing) : KnI P w K mg base "Order" 2 ["self", "book", "reading"] sp_Order___init__ :=
  KnI.mk a sc_Order___init__ mono_Order___init__ len_Order___init__ (d_Order___init__ T c_standing) pf_Order___init__
theorem kn_kind_behind {P : Program} {w : World} {K : PySem.W.Frag} {mg : Str → Option Value} {base : Heap} (T : Tx K mg) (a : At K mg "kind_behind" s_kind_behind ["book", "behind"]) (c_is_count : Kn P w K mg base "is_count" 1 ["thing"] sp_is_count) : Kn P w K mg base "kind_behind" 2 ["book", "behind"] sp_kind_behind :=
  Kn.mk a sc_kind_behind mono_kind_behind len_kind_behind (d_kind_behind T c_is_count) pf_kind_behind
theorem kn_cheapest {P : Program} {w : World} {K : PySem.W.Frag} {mg : Str → Option Value} {base : Heap} (T : Tx K mg) (a : AtK K mg "cheapest" "behind" s_cheapest ["book", "reading", "behind"]) (c_need_both : Kn P w K mg base "need_both" 5 ["book", "reading"] sp_need_both) (c_Order_split_at : KnM P w K mg base CX0 "Order" "split_at" 127 ["self", "place", "kind", "rank"] sp_Order_split_at) (c_Order___init__ : KnI P w K mg base "Order" 2 ["self", "book", "reading"] sp_Order___init__) (c_kind_behind : Kn P w K mg base "kind_behind" 2 ["book", "behind"] sp_kind_behind) : KnK P w K mg base "cheapest" "behind" 128 ["book", "reading", "behind"] sp_cheapest :=
  KnK.mk a sc_cheapest mono_cheapest len_cheapest (d_cheapest T c_need_both c_Order_split_at c_Order___init__ c_kind_behind) pf_cheapest
theorem kn_is_raw {P : Program} {w : World} {K : PySem.W.Frag} {mg : Str → Option Value} {base : Heap} (T : Tx K mg) (a : At K mg "is_raw" s_is_raw ["book", "thing"]) (c_is_small : Kn P w K mg base "is_small" 1 ["thing"] sp_is_small) (c_is_count : Kn P w K mg base "is_count" 1 ["thing"] sp_is_count) : Kn P w K mg base "is_raw" 2 ["book", "thing"] sp_is_raw :=
  Kn.mk a sc_is_raw mono_is_raw len_is_raw (d_is_raw T c_is_small c_is_count) pf_is_raw
theorem kn_parts_to {P : Program} {w : World} {K : PySem.W.Frag} {mg : Str → Option Value} {base : Heap} (T : Tx K mg) (a : At K mg "parts_to" s_parts_to ["book", "reading", "thing"]) (c_is_raw : Kn P w K mg base "is_raw" 2 ["book", "thing"] sp_is_raw) (c_is_word : Kn P w K mg base "is_word" 3 ["thing"] sp_is_word) : Kn P w K mg base "parts_to" 4 ["book", "reading", "thing"] sp_parts_to :=
  Kn.mk a sc_parts_to mono_parts_to len_parts_to (d_parts_to T c_is_raw c_is_word) pf_parts_to
theorem kn_is_split {P : Program} {w : World} {K : PySem.W.Frag} {mg : Str → Option Value} {base : Heap} (T : Tx K mg) (a : At K mg "is_split" s_is_split ["book", "reading", "thing"]) (c_need_both : Kn P w K mg base "need_both" 5 ["book", "reading"] sp_need_both) (c_parts_to : Kn P w K mg base "parts_to" 4 ["book", "reading", "thing"] sp_parts_to) : Kn P w K mg base "is_split" 6 ["book", "reading", "thing"] sp_is_split :=
  Kn.mk a sc_is_split mono_is_split len_is_split (d_is_split T c_need_both c_parts_to) pf_is_split
theorem kn_text_made {P : Program} {w : World} {K : PySem.W.Frag} {mg : Str → Option Value} {base : Heap} (T : Tx K mg) (a : At K mg "text_made" s_text_made ["thing"]) : Kn P w K mg base "text_made" 1 ["thing"] sp_text_made :=
  Kn.mk a sc_text_made mono_text_made len_text_made (d_text_made T) pf_text_made
theorem kn_cost_of {P : Program} {w : World} {K : PySem.W.Frag} {mg : Str → Option Value} {base : Heap} (T : Tx K mg) (a : AtK K mg "cost_of" "behind" s_cost_of ["book", "split", "behind"]) (c_is_book : Kn P w K mg base "is_book" 4 ["thing"] sp_is_book) (c_text_made : Kn P w K mg base "text_made" 1 ["thing"] sp_text_made) (c_parts_to : Kn P w K mg base "parts_to" 4 ["book", "reading", "thing"] sp_parts_to) (c_kind_behind : Kn P w K mg base "kind_behind" 2 ["book", "behind"] sp_kind_behind) : KnK P w K mg base "cost_of" "behind" 5 ["book", "split", "behind"] sp_cost_of :=
  KnK.mk a sc_cost_of mono_cost_of len_cost_of (d_cost_of T c_is_book c_text_made c_parts_to c_kind_behind) pf_cost_of
theorem kn__law_at {P : Program} {w : World} {K : PySem.W.Frag} {mg : Str → Option Value} {base : Heap} (T : Tx K mg) (a : At K mg "_law_at" s__law_at ["book", "reading", "place"]) : Kn P w K mg base "_law_at" 1 ["book", "reading", "place"] sp__law_at :=
  Kn.mk a sc__law_at mono__law_at len__law_at (d__law_at T) pf__law_at
theorem kn__law_front {P : Program} {w : World} {K : PySem.W.Frag} {mg : Str → Option Value} {base : Heap} (T : Tx K mg) (a : At K mg "_law_front" s__law_front ["book", "reading"]) (c__law_at : Kn P w K mg base "_law_at" 1 ["book", "reading", "place"] sp__law_at) : Kn P w K mg base "_law_front" 2 ["book", "reading"] sp__law_front :=
  Kn.mk a sc__law_front mono__law_front len__law_front (d__law_front T c__law_at) pf__law_front
theorem kn__law_least {P : Program} {w : World} {K : PySem.W.Frag} {mg : Str → Option Value} {base : Heap} (T : Tx K mg) (a : At K mg "_law_least" s__law_least ["book", "reading"]) (c__law_front : Kn P w K mg base "_law_front" 2 ["book", "reading"] sp__law_front) : Kn P w K mg base "_law_least" 3 ["book", "reading"] sp__law_least :=
  Kn.mk a sc__law_least mono__law_least len__law_least (d__law_least T c__law_front) pf__law_least
theorem kn__law_key {P : Program} {w : World} {K : PySem.W.Frag} {mg : Str → Option Value} {base : Heap} (T : Tx K mg) (a : At K mg "_law_key" s__law_key ["book", "split", "start"]) : Kn P w K mg base "_law_key" 1 ["book", "split", "start"] sp__law_key :=
  Kn.mk a sc__law_key mono__law_key len__law_key (d__law_key T) pf__law_key
theorem kn__law_first_right {P : Program} {w : World} {K : PySem.W.Frag} {mg : Str → Option Value} {base : Heap} (T : Tx K mg) (a : At K mg "_law_first_right" s__law_first_right ["book", "left", "start", "told"]) (c_cheapest : KnK P w K mg base "cheapest" "behind" 128 ["book", "reading", "behind"] sp_cheapest) (c__law_key : Kn P w K mg base "_law_key" 1 ["book", "split", "start"] sp__law_key) (c__law_at : Kn P w K mg base "_law_at" 1 ["book", "reading", "place"] sp__law_at) : Kn P w K mg base "_law_first_right" 129 ["book", "left", "start", "told"] sp__law_first_right :=
  Kn.mk a sc__law_first_right mono__law_first_right len__law_first_right (d__law_first_right T c_cheapest c__law_key c__law_at) pf__law_first_right
theorem kn__law_right {P : Program} {w : World} {K : PySem.W.Frag} {mg : Str → Option Value} {base : Heap} (T : Tx K mg) (a : At K mg "_law_right" s__law_right ["pot", "wide"]) (c__law_letters : Kn P w K mg base "_law_letters" 2 ["pot"] sp__law_letters) (c__law_book : Kn P w K mg base "_law_book" 4 ["pot", "letters", "most"] sp__law_book) (c__law_reading : Kn P w K mg base "_law_reading" 2 ["pot", "book", "letters", "most"] sp__law_reading) (c__law_take : Kn P w K mg base "_law_take" 1 ["pot", "many"] sp__law_take) (c_cheapest : KnK P w K mg base "cheapest" "behind" 128 ["book", "reading", "behind"] sp_cheapest) (c_is_split : Kn P w K mg base "is_split" 6 ["book", "reading", "thing"] sp_is_split) (c_cost_of : KnK P w K mg base "cost_of" "behind" 5 ["book", "split", "behind"] sp_cost_of) (c__law_least : Kn P w K mg base "_law_least" 3 ["book", "reading"] sp__law_least) (c__law_first_right : Kn P w K mg base "_law_first_right" 129 ["book", "left", "start", "told"] sp__law_first_right) : Kn P w K mg base "_law_right" 130 ["pot", "wide"] sp__law_right :=
  Kn.mk a sc__law_right mono__law_right len__law_right (d__law_right T c__law_letters c__law_book c__law_reading c__law_take c_cheapest c_is_split c_cost_of c__law_least c__law_first_right) pf__law_right
theorem kn__law_pot {P : Program} {w : World} {K : PySem.W.Frag} {mg : Str → Option Value} {base : Heap} (T : Tx K mg) (a : At K mg "_law_pot" s__law_pot ["script", "k"]) : Kn P w K mg base "_law_pot" 1 ["script", "k"] sp__law_pot :=
  Kn.mk a sc__law_pot mono__law_pot len__law_pot (d__law_pot T) pf__law_pot
theorem all_mk {P : Program} {w : World} {K : PySem.W.Frag} {h : Heap} {mg : Str → Option Value} {fa : Addr} (X : K.In h) (G : h.Ns mainGlobals mg) (hfa : mg "law" = some (.ref fa))
    {C_Order : Addr}
    {f1 : Addr} {od1 an1 : Option Addr} {sl1 : Array (Option Value)} {oc1 kV1 dc1 pm1 cd1 ct1 : Value}
    {f2 : Addr} {od2 an2 : Option Addr} {sl2 : Array (Option Value)} {oc2 kV2 dc2 pm2 cd2 ct2 : Value}
    {f3 : Addr} {od3 an3 : Option Addr} {sl3 : Array (Option Value)} {oc3 kV3 dc3 pm3 cd3 ct3 : Value}
    {f4 : Addr} {od4 an4 : Option Addr} {sl4 : Array (Option Value)} {oc4 kV4 dc4 pm4 cd4 ct4 : Value}
    {f5 : Addr} {od5 an5 : Option Addr} {sl5 : Array (Option Value)} {oc5 kV5 dc5 pm5 cd5 ct5 : Value}
    {f6 : Addr} {od6 an6 : Option Addr} {sl6 : Array (Option Value)} {oc6 kV6 dc6 pm6 cd6 ct6 : Value}
    {f7 : Addr} {od7 an7 : Option Addr} {sl7 : Array (Option Value)} {oc7 kV7 dc7 pm7 cd7 ct7 : Value}
    {f8 : Addr} {od8 an8 : Option Addr} {sl8 : Array (Option Value)} {oc8 kV8 dc8 pm8 cd8 ct8 : Value}
    {f9 : Addr} {od9 an9 : Option Addr} {sl9 : Array (Option Value)} {oc9 kV9 dc9 pm9 cd9 ct9 : Value}
    {f10 : Addr} {od10 an10 : Option Addr} {sl10 : Array (Option Value)} {oc10 kV10 dc10 pm10 cd10 ct10 : Value}
    {f11 : Addr} {od11 an11 : Option Addr} {sl11 : Array (Option Value)} {oc11 kV11 dc11 pm11 cd11 ct11 : Value}
    {f12 : Addr} {od12 an12 : Option Addr} {sl12 : Array (Option Value)} {oc12 kV12 dc12 pm12 cd12 ct12 : Value}
    {f13 : Addr} {od13 an13 : Option Addr} {sl13 : Array (Option Value)} {oc13 kV13 dc13 pm13 cd13 ct13 : Value}
    {f14 : Addr} {od14 an14 : Option Addr} {sl14 : Array (Option Value)} {oc14 kV14 dc14 pm14 cd14 ct14 : Value}
    {f15 : Addr} {od15 an15 : Option Addr} {sl15 : Array (Option Value)} {oc15 kV15 dc15 pm15 cd15 ct15 : Value}
    {f16 : Addr} {od16 an16 : Option Addr} {sl16 : Array (Option Value)} {oc16 kV16 dc16 pm16 cd16 ct16 : Value}
    {f17 : Addr} {od17 an17 : Option Addr} {sl17 : Array (Option Value)} {oc17 kV17 dc17 pm17 cd17 ct17 : Value}
    {f18 : Addr} {od18 an18 : Option Addr} {sl18 : Array (Option Value)} {oc18 kV18 dc18 pm18 cd18 ct18 : Value}
    {f19 : Addr} {od19 an19 : Option Addr} {sl19 : Array (Option Value)} {oc19 kV19 dc19 pm19 cd19 ct19 : Value}
    {f20 : Addr} {od20 an20 : Option Addr} {sl20 : Array (Option Value)} {oc20 kV20 dc20 pm20 cd20 ct20 : Value}
    {f21 : Addr} {od21 an21 : Option Addr} {sl21 : Array (Option Value)} {oc21 dc21 pm21 cd21 ct21 : Value}
    {D21 : Addr}
    {f22 : Addr} {od22 an22 : Option Addr} {sl22 : Array (Option Value)} {oc22 kV22 dc22 pm22 cd22 ct22 : Value}
    {f23 : Addr} {od23 an23 : Option Addr} {sl23 : Array (Option Value)} {oc23 kV23 dc23 pm23 cd23 ct23 : Value}
    {f24 : Addr} {od24 an24 : Option Addr} {sl24 : Array (Option Value)} {oc24 kV24 dc24 pm24 cd24 ct24 : Value}
    {f25 : Addr} {od25 an25 : Option Addr} {sl25 : Array (Option Value)} {oc25 kV25 dc25 pm25 cd25 ct25 : Value}
    {f26 : Addr} {od26 an26 : Option Addr} {sl26 : Array (Option Value)} {oc26 dc26 pm26 cd26 ct26 : Value}
    {D26 : Addr}
    {f27 : Addr} {od27 an27 : Option Addr} {sl27 : Array (Option Value)} {oc27 kV27 dc27 pm27 cd27 ct27 : Value}
    {f28 : Addr} {od28 an28 : Option Addr} {sl28 : Array (Option Value)} {oc28 kV28 dc28 pm28 cd28 ct28 : Value}
    {f29 : Addr} {od29 an29 : Option Addr} {sl29 : Array (Option Value)} {oc29 kV29 dc29 pm29 cd29 ct29 : Value}
    {f30 : Addr} {od30 an30 : Option Addr} {sl30 : Array (Option Value)} {oc30 kV30 dc30 pm30 cd30 ct30 : Value}
    {f31 : Addr} {od31 an31 : Option Addr} {sl31 : Array (Option Value)} {oc31 kV31 dc31 pm31 cd31 ct31 : Value}
    {f32 : Addr} {od32 an32 : Option Addr} {sl32 : Array (Option Value)} {oc32 kV32 dc32 pm32 cd32 ct32 : Value}
    {f33 : Addr} {od33 an33 : Option Addr} {sl33 : Array (Option Value)} {oc33 kV33 dc33 pm33 cd33 ct33 : Value}
    {f34 : Addr} {od34 an34 : Option Addr} {sl34 : Array (Option Value)} {oc34 kV34 dc34 pm34 cd34 ct34 : Value}
    {t_LARGE : Tok}
    {t_LONGEST : Tok}
    {t_MOST : Tok}
    {t_PLAIN : Tok}
    {t_SMALL : Tok}
    (y_Order : PySem.W.nsIn K mainGlobals "Order" = some (some (.ref C_Order))) (p1_Order : PySem.W.plainGet K C_Order Str.empty = true) (p2_Order : PySem.W.hasDictIn K C_Order = true) (p3_Order : PySem.W.plainOver K C_Order = true) (p4_Order : PySem.W.findIn K (.ref C_Order) "__setattr__" = some (some (.builtin "object.__setattr__")))
    (p5_Order : PySem.W.makesIn K C_Order = true) (p6_Order : PySem.W.keepIn K (.ref C_Order) = true)
    (g_Order_split_end : PySem.W.findIn K (.ref C_Order) "split_end" = some none)
    (g_Order_split_joins : PySem.W.findIn K (.ref C_Order) "split_joins" = some none)
    (g_Order_split_known : PySem.W.findIn K (.ref C_Order) "split_known" = some none)
    (g_Order_split_words : PySem.W.findIn K (.ref C_Order) "split_words" = some none)
    (a1 : PySem.W.nsIn K mainGlobals "_law_take" = some (some (.ref f1))) (l1 : K.lookup f1 = some ⟨oc1, od1, .func (PySem.W.fnOf "_law_take" "_law_take" (defArgs s__law_take) (defBody s__law_take) (defScope s__law_take) .none kV1 dc1 pm1 an1 cd1 ct1), sl1⟩) (q1 : PySem.W.codeIn K cd1 "_law_take" = true) (k1 : PySem.W.keepIn K (.ref f1) = true)
    (a2 : PySem.W.nsIn K mainGlobals "_law_letters" = some (some (.ref f2))) (l2 : K.lookup f2 = some ⟨oc2, od2, .func (PySem.W.fnOf "_law_letters" "_law_letters" (defArgs s__law_letters) (defBody s__law_letters) (defScope s__law_letters) .none kV2 dc2 pm2 an2 cd2 ct2), sl2⟩) (q2 : PySem.W.codeIn K cd2 "_law_letters" = true) (k2 : PySem.W.keepIn K (.ref f2) = true)
    (a3 : PySem.W.nsIn K mainGlobals "_law_cost" = some (some (.ref f3))) (l3 : K.lookup f3 = some ⟨oc3, od3, .func (PySem.W.fnOf "_law_cost" "_law_cost" (defArgs s__law_cost) (defBody s__law_cost) (defScope s__law_cost) .none kV3 dc3 pm3 an3 cd3 ct3), sl3⟩) (q3 : PySem.W.codeIn K cd3 "_law_cost" = true) (k3 : PySem.W.keepIn K (.ref f3) = true)
    (a4 : PySem.W.nsIn K mainGlobals "_law_word" = some (some (.ref f4))) (l4 : K.lookup f4 = some ⟨oc4, od4, .func (PySem.W.fnOf "_law_word" "_law_word" (defArgs s__law_word) (defBody s__law_word) (defScope s__law_word) .none kV4 dc4 pm4 an4 cd4 ct4), sl4⟩) (q4 : PySem.W.codeIn K cd4 "_law_word" = true) (k4 : PySem.W.keepIn K (.ref f4) = true)
    (a5 : PySem.W.nsIn K mainGlobals "_law_book" = some (some (.ref f5))) (l5 : K.lookup f5 = some ⟨oc5, od5, .func (PySem.W.fnOf "_law_book" "_law_book" (defArgs s__law_book) (defBody s__law_book) (defScope s__law_book) .none kV5 dc5 pm5 an5 cd5 ct5), sl5⟩) (q5 : PySem.W.codeIn K cd5 "_law_book" = true) (k5 : PySem.W.keepIn K (.ref f5) = true)
    (a6 : PySem.W.nsIn K mainGlobals "_law_reading" = some (some (.ref f6))) (l6 : K.lookup f6 = some ⟨oc6, od6, .func (PySem.W.fnOf "_law_reading" "_law_reading" (defArgs s__law_reading) (defBody s__law_reading) (defScope s__law_reading) .none kV6 dc6 pm6 an6 cd6 ct6), sl6⟩) (q6 : PySem.W.codeIn K cd6 "_law_reading" = true) (k6 : PySem.W.keepIn K (.ref f6) = true)
    (a7 : PySem.W.nsIn K mainGlobals "is_small" = some (some (.ref f7))) (l7 : K.lookup f7 = some ⟨oc7, od7, .func (PySem.W.fnOf "is_small" "is_small" (defArgs s_is_small) (defBody s_is_small) (defScope s_is_small) .none kV7 dc7 pm7 an7 cd7 ct7), sl7⟩) (q7 : PySem.W.codeIn K cd7 "is_small" = true) (k7 : PySem.W.keepIn K (.ref f7) = true)
    (a8 : PySem.W.nsIn K mainGlobals "is_reading" = some (some (.ref f8))) (l8 : K.lookup f8 = some ⟨oc8, od8, .func (PySem.W.fnOf "is_reading" "is_reading" (defArgs s_is_reading) (defBody s_is_reading) (defScope s_is_reading) .none kV8 dc8 pm8 an8 cd8 ct8), sl8⟩) (q8 : PySem.W.codeIn K cd8 "is_reading" = true) (k8 : PySem.W.keepIn K (.ref f8) = true)
    (a9 : PySem.W.nsIn K mainGlobals "is_writing" = some (some (.ref f9))) (l9 : K.lookup f9 = some ⟨oc9, od9, .func (PySem.W.fnOf "is_writing" "is_writing" (defArgs s_is_writing) (defBody s_is_writing) (defScope s_is_writing) .none kV9 dc9 pm9 an9 cd9 ct9), sl9⟩) (q9 : PySem.W.codeIn K cd9 "is_writing" = true) (k9 : PySem.W.keepIn K (.ref f9) = true)
    (a10 : PySem.W.nsIn K mainGlobals "is_count" = some (some (.ref f10))) (l10 : K.lookup f10 = some ⟨oc10, od10, .func (PySem.W.fnOf "is_count" "is_count" (defArgs s_is_count) (defBody s_is_count) (defScope s_is_count) .none kV10 dc10 pm10 an10 cd10 ct10), sl10⟩) (q10 : PySem.W.codeIn K cd10 "is_count" = true) (k10 : PySem.W.keepIn K (.ref f10) = true)
    (a11 : PySem.W.nsIn K mainGlobals "is_word" = some (some (.ref f11))) (l11 : K.lookup f11 = some ⟨oc11, od11, .func (PySem.W.fnOf "is_word" "is_word" (defArgs s_is_word) (defBody s_is_word) (defScope s_is_word) .none kV11 dc11 pm11 an11 cd11 ct11), sl11⟩) (q11 : PySem.W.codeIn K cd11 "is_word" = true) (k11 : PySem.W.keepIn K (.ref f11) = true)
    (a12 : PySem.W.nsIn K mainGlobals "are_joins" = some (some (.ref f12))) (l12 : K.lookup f12 = some ⟨oc12, od12, .func (PySem.W.fnOf "are_joins" "are_joins" (defArgs s_are_joins) (defBody s_are_joins) (defScope s_are_joins) .none kV12 dc12 pm12 an12 cd12 ct12), sl12⟩) (q12 : PySem.W.codeIn K cd12 "are_joins" = true) (k12 : PySem.W.keepIn K (.ref f12) = true)
    (a13 : PySem.W.nsIn K mainGlobals "is_book" = some (some (.ref f13))) (l13 : K.lookup f13 = some ⟨oc13, od13, .func (PySem.W.fnOf "is_book" "is_book" (defArgs s_is_book) (defBody s_is_book) (defScope s_is_book) .none kV13 dc13 pm13 an13 cd13 ct13), sl13⟩) (q13 : PySem.W.codeIn K cd13 "is_book" = true) (k13 : PySem.W.keepIn K (.ref f13) = true)
    (a14 : PySem.W.nsIn K mainGlobals "need_both" = some (some (.ref f14))) (l14 : K.lookup f14 = some ⟨oc14, od14, .func (PySem.W.fnOf "need_both" "need_both" (defArgs s_need_both) (defBody s_need_both) (defScope s_need_both) .none kV14 dc14 pm14 an14 cd14 ct14), sl14⟩) (q14 : PySem.W.codeIn K cd14 "need_both" = true) (k14 : PySem.W.keepIn K (.ref f14) = true)
    (a15 : PySem.W.findIn K (.ref C_Order) "split_ahead" = some (some (.ref f15))) (n15 : PySem.W.isFn K (.ref f15) = true) (l15 : K.lookup f15 = some ⟨oc15, od15, .func (PySem.W.fnOf "split_ahead" "Order.split_ahead" (defArgs s_Order_split_ahead) (defBody s_Order_split_ahead) (defScope s_Order_split_ahead) .none kV15 dc15 pm15 an15 cd15 ct15), sl15⟩) (q15 : PySem.W.codeIn K cd15 "Order.split_ahead" = true) (k15 : PySem.W.keepIn K (.ref f15) = true)
    (a16 : PySem.W.findIn K (.ref C_Order) "split_begun" = some (some (.ref f16))) (n16 : PySem.W.isFn K (.ref f16) = true) (l16 : K.lookup f16 = some ⟨oc16, od16, .func (PySem.W.fnOf "split_begun" "Order.split_begun" (defArgs s_Order_split_begun) (defBody s_Order_split_begun) (defScope s_Order_split_begun) .none kV16 dc16 pm16 an16 cd16 ct16), sl16⟩) (q16 : PySem.W.codeIn K cd16 "Order.split_begun" = true) (k16 : PySem.W.keepIn K (.ref f16) = true)
    (a17 : PySem.W.findIn K (.ref C_Order) "split_at" = some (some (.ref f17))) (n17 : PySem.W.isFn K (.ref f17) = true) (l17 : K.lookup f17 = some ⟨oc17, od17, .func (PySem.W.fnOf "split_at" "Order.split_at" (defArgs s_Order_split_at) (defBody s_Order_split_at) (defScope s_Order_split_at) .none kV17 dc17 pm17 an17 cd17 ct17), sl17⟩) (q17 : PySem.W.codeIn K cd17 "Order.split_at" = true) (k17 : PySem.W.keepIn K (.ref f17) = true)
    (a18 : PySem.W.nsIn K mainGlobals "standing" = some (some (.ref f18))) (l18 : K.lookup f18 = some ⟨oc18, od18, .func (PySem.W.fnOf "standing" "standing" (defArgs s_standing) (defBody s_standing) (defScope s_standing) .none kV18 dc18 pm18 an18 cd18 ct18), sl18⟩) (q18 : PySem.W.codeIn K cd18 "standing" = true) (k18 : PySem.W.keepIn K (.ref f18) = true)
    (a19 : PySem.W.findIn K (.ref C_Order) "__init__" = some (some (.ref f19))) (n19 : PySem.W.isFn K (.ref f19) = true) (l19 : K.lookup f19 = some ⟨oc19, od19, .func (PySem.W.fnOf "__init__" "Order.__init__" (defArgs s_Order___init__) (defBody s_Order___init__) (defScope s_Order___init__) .none kV19 dc19 pm19 an19 cd19 ct19), sl19⟩) (q19 : PySem.W.codeIn K cd19 "Order.__init__" = true) (k19 : PySem.W.keepIn K (.ref f19) = true)
    (a20 : PySem.W.nsIn K mainGlobals "kind_behind" = some (some (.ref f20))) (l20 : K.lookup f20 = some ⟨oc20, od20, .func (PySem.W.fnOf "kind_behind" "kind_behind" (defArgs s_kind_behind) (defBody s_kind_behind) (defScope s_kind_behind) .none kV20 dc20 pm20 an20 cd20 ct20), sl20⟩) (q20 : PySem.W.codeIn K cd20 "kind_behind" = true) (k20 : PySem.W.keepIn K (.ref f20) = true)
    (a21 : PySem.W.nsIn K mainGlobals "cheapest" = some (some (.ref f21))) (l21 : K.lookup f21 = some ⟨oc21, od21, .func (PySem.W.fnOf "cheapest" "cheapest" (defArgs s_cheapest) (defBody s_cheapest) (defScope s_cheapest) .none (.ref D21) dc21 pm21 an21 cd21 ct21), sl21⟩) (q21 : PySem.W.codeIn K cd21 "cheapest" = true) (k21 : PySem.W.keepIn K (.ref f21) = true) (e21 : PySem.W.nsIn K D21 "behind" = some (some .none))
    (a22 : PySem.W.nsIn K mainGlobals "is_raw" = some (some (.ref f22))) (l22 : K.lookup f22 = some ⟨oc22, od22, .func (PySem.W.fnOf "is_raw" "is_raw" (defArgs s_is_raw) (defBody s_is_raw) (defScope s_is_raw) .none kV22 dc22 pm22 an22 cd22 ct22), sl22⟩) (q22 : PySem.W.codeIn K cd22 "is_raw" = true) (k22 : PySem.W.keepIn K (.ref f22) = true)
    (a23 : PySem.W.nsIn K mainGlobals "parts_to" = some (some (.ref f23))) (l23 : K.lookup f23 = some ⟨oc23, od23, .func (PySem.W.fnOf "parts_to" "parts_to" (defArgs s_parts_to) (defBody s_parts_to) (defScope s_parts_to) .none kV23 dc23 pm23 an23 cd23 ct23), sl23⟩) (q23 : PySem.W.codeIn K cd23 "parts_to" = true) (k23 : PySem.W.keepIn K (.ref f23) = true)
    (a24 : PySem.W.nsIn K mainGlobals "is_split" = some (some (.ref f24))) (l24 : K.lookup f24 = some ⟨oc24, od24, .func (PySem.W.fnOf "is_split" "is_split" (defArgs s_is_split) (defBody s_is_split) (defScope s_is_split) .none kV24 dc24 pm24 an24 cd24 ct24), sl24⟩) (q24 : PySem.W.codeIn K cd24 "is_split" = true) (k24 : PySem.W.keepIn K (.ref f24) = true)
    (a25 : PySem.W.nsIn K mainGlobals "text_made" = some (some (.ref f25))) (l25 : K.lookup f25 = some ⟨oc25, od25, .func (PySem.W.fnOf "text_made" "text_made" (defArgs s_text_made) (defBody s_text_made) (defScope s_text_made) .none kV25 dc25 pm25 an25 cd25 ct25), sl25⟩) (q25 : PySem.W.codeIn K cd25 "text_made" = true) (k25 : PySem.W.keepIn K (.ref f25) = true)
    (a26 : PySem.W.nsIn K mainGlobals "cost_of" = some (some (.ref f26))) (l26 : K.lookup f26 = some ⟨oc26, od26, .func (PySem.W.fnOf "cost_of" "cost_of" (defArgs s_cost_of) (defBody s_cost_of) (defScope s_cost_of) .none (.ref D26) dc26 pm26 an26 cd26 ct26), sl26⟩) (q26 : PySem.W.codeIn K cd26 "cost_of" = true) (k26 : PySem.W.keepIn K (.ref f26) = true) (e26 : PySem.W.nsIn K D26 "behind" = some (some .none))
    (a27 : PySem.W.nsIn K mainGlobals "_law_at" = some (some (.ref f27))) (l27 : K.lookup f27 = some ⟨oc27, od27, .func (PySem.W.fnOf "_law_at" "_law_at" (defArgs s__law_at) (defBody s__law_at) (defScope s__law_at) .none kV27 dc27 pm27 an27 cd27 ct27), sl27⟩) (q27 : PySem.W.codeIn K cd27 "_law_at" = true) (k27 : PySem.W.keepIn K (.ref f27) = true)
    (a28 : PySem.W.nsIn K mainGlobals "_law_front" = some (some (.ref f28))) (l28 : K.lookup f28 = some ⟨oc28, od28, .func (PySem.W.fnOf "_law_front" "_law_front" (defArgs s__law_front) (defBody s__law_front) (defScope s__law_front) .none kV28 dc28 pm28 an28 cd28 ct28), sl28⟩) (q28 : PySem.W.codeIn K cd28 "_law_front" = true) (k28 : PySem.W.keepIn K (.ref f28) = true)
    (a29 : PySem.W.nsIn K mainGlobals "_law_least" = some (some (.ref f29))) (l29 : K.lookup f29 = some ⟨oc29, od29, .func (PySem.W.fnOf "_law_least" "_law_least" (defArgs s__law_least) (defBody s__law_least) (defScope s__law_least) .none kV29 dc29 pm29 an29 cd29 ct29), sl29⟩) (q29 : PySem.W.codeIn K cd29 "_law_least" = true) (k29 : PySem.W.keepIn K (.ref f29) = true)
    (a30 : PySem.W.nsIn K mainGlobals "_law_key" = some (some (.ref f30))) (l30 : K.lookup f30 = some ⟨oc30, od30, .func (PySem.W.fnOf "_law_key" "_law_key" (defArgs s__law_key) (defBody s__law_key) (defScope s__law_key) .none kV30 dc30 pm30 an30 cd30 ct30), sl30⟩) (q30 : PySem.W.codeIn K cd30 "_law_key" = true) (k30 : PySem.W.keepIn K (.ref f30) = true)
    (a31 : PySem.W.nsIn K mainGlobals "_law_first_right" = some (some (.ref f31))) (l31 : K.lookup f31 = some ⟨oc31, od31, .func (PySem.W.fnOf "_law_first_right" "_law_first_right" (defArgs s__law_first_right) (defBody s__law_first_right) (defScope s__law_first_right) .none kV31 dc31 pm31 an31 cd31 ct31), sl31⟩) (q31 : PySem.W.codeIn K cd31 "_law_first_right" = true) (k31 : PySem.W.keepIn K (.ref f31) = true)
    (a32 : PySem.W.nsIn K mainGlobals "_law_right" = some (some (.ref f32))) (l32 : K.lookup f32 = some ⟨oc32, od32, .func (PySem.W.fnOf "_law_right" "_law_right" (defArgs s__law_right) (defBody s__law_right) (defScope s__law_right) .none kV32 dc32 pm32 an32 cd32 ct32), sl32⟩) (q32 : PySem.W.codeIn K cd32 "_law_right" = true) (k32 : PySem.W.keepIn K (.ref f32) = true)
    (a33 : PySem.W.nsIn K mainGlobals "_law_pot" = some (some (.ref f33))) (l33 : K.lookup f33 = some ⟨oc33, od33, .func (PySem.W.fnOf "_law_pot" "_law_pot" (defArgs s__law_pot) (defBody s__law_pot) (defScope s__law_pot) .none kV33 dc33 pm33 an33 cd33 ct33), sl33⟩) (q33 : PySem.W.codeIn K cd33 "_law_pot" = true) (k33 : PySem.W.keepIn K (.ref f33) = true)
    (a34 : PySem.W.nsIn K mainGlobals "law" = some (some (.ref f34))) (l34 : K.lookup f34 = some ⟨oc34, od34, .func (PySem.W.fnOf "law" "law" (defArgs s_law) (defBody s_law) (defScope s_law) .none kV34 dc34 pm34 an34 cd34 ct34), sl34⟩) (q34 : PySem.W.codeIn K cd34 "law" = true) (k34 : PySem.W.keepIn K (.ref f34) = true)
    (z_all : PySem.W.nsIn K mainGlobals "all" = some none)
    (z_bool : PySem.W.nsIn K mainGlobals "bool" = some none)
    (z_enumerate : PySem.W.nsIn K mainGlobals "enumerate" = some none)
    (z_int : PySem.W.nsIn K mainGlobals "int" = some none)
    (z_isinstance : PySem.W.nsIn K mainGlobals "isinstance" = some none)
    (z_len : PySem.W.nsIn K mainGlobals "len" = some none)
    (z_list : PySem.W.nsIn K mainGlobals "list" = some none)
    (z_max : PySem.W.nsIn K mainGlobals "max" = some none)
    (z_min : PySem.W.nsIn K mainGlobals "min" = some none)
    (z_range : PySem.W.nsIn K mainGlobals "range" = some none)
    (z_str : PySem.W.nsIn K mainGlobals "str" = some none)
    (z_sum : PySem.W.nsIn K mainGlobals "sum" = some none)
    (z_tuple : PySem.W.nsIn K mainGlobals "tuple" = some none)
    (y_LARGE : PySem.W.nsIn K mainGlobals "LARGE" = some (some (.str "ABCDEFGHIJKLMNOPQRSTUVWXYZ" t_LARGE)))
    (y_LONGEST : PySem.W.nsIn K mainGlobals "LONGEST" = some (some (.int 12 t_LONGEST)))
    (y_MOST : PySem.W.nsIn K mainGlobals "MOST" = some (some (.int 40 t_MOST)))
    (y_PLAIN : PySem.W.nsIn K mainGlobals "PLAIN" = some (some (.int 1000 t_PLAIN)))
    (y_SMALL : PySem.W.nsIn K mainGlobals "SMALL" = some (some (.str "abcdefghijklmnopqrstuvwxyz" t_SMALL))) :
    ∃ fd : FuncData, (∀ (s : Shared) (v : Value), BindsTo s fd ⟨[v], []⟩ [("script", v)]) ∧ ∀ base : Heap, K.In base → base.Ns mainGlobals mg → TabsB K mg base → FnD P w K mg base CX0 131 fa fd ["script"] spLaw := by
  have cl_Order : ClsN K "Order" C_Order := ⟨y_Order, ⟨p1_Order, p2_Order, p3_Order, p4_Order⟩⟩
  have T : Tx K mg := ⟨⟨_, cl_Order, g_Order_split_end⟩, ⟨_, cl_Order, g_Order_split_joins⟩, ⟨_, cl_Order, g_Order_split_known⟩, ⟨_, cl_Order, g_Order_split_words⟩, PySem.W.mg_none_of X G z_all, PySem.W.mg_none_of X G z_bool, PySem.W.mg_none_of X G z_enumerate, PySem.W.mg_none_of X G z_int, PySem.W.mg_none_of X G z_isinstance, PySem.W.mg_none_of X G z_len, PySem.W.mg_none_of X G z_list, PySem.W.mg_none_of X G z_max, PySem.W.mg_none_of X G z_min, PySem.W.mg_none_of X G z_range, PySem.W.mg_none_of X G z_str, PySem.W.mg_none_of X G z_sum, PySem.W.mg_none_of X G z_tuple, ⟨_, PySem.W.mg_of X G y_LARGE⟩, ⟨_, PySem.W.mg_of X G y_LONGEST⟩, ⟨_, PySem.W.mg_of X G y_MOST⟩, ⟨_, PySem.W.mg_of X G y_PLAIN⟩, ⟨_, PySem.W.mg_of X G y_SMALL⟩⟩
  have F1 := fun_mk (st := s__law_take) l1 q1 k1
  have at__law_take : At K mg "_law_take" s__law_take ["pot", "many"] := ⟨_, _, F1, PySem.W.mg_of X G a1, F1.binds (ps := ["pot", "many"]) fun _ _ _ _ _ _ us hl => match us, hl with | [_, _], _ => rfl⟩
  have F2 := fun_mk (st := s__law_letters) l2 q2 k2
  have at__law_letters : At K mg "_law_letters" s__law_letters ["pot"] := ⟨_, _, F2, PySem.W.mg_of X G a2, F2.binds (ps := ["pot"]) fun _ _ _ _ _ _ us hl => match us, hl with | [_], _ => rfl⟩
  have F3 := fun_mk (st := s__law_cost) l3 q3 k3
  have at__law_cost : At K mg "_law_cost" s__law_cost ["pot", "way"] := ⟨_, _, F3, PySem.W.mg_of X G a3, F3.binds (ps := ["pot", "way"]) fun _ _ _ _ _ _ us hl => match us, hl with | [_, _], _ => rfl⟩
  have F4 := fun_mk (st := s__law_word) l4 q4 k4
  have at__law_word : At K mg "_law_word" s__law_word ["pot", "letters", "kinds", "way"] := ⟨_, _, F4, PySem.W.mg_of X G a4, F4.binds (ps := ["pot", "letters", "kinds", "way"]) fun _ _ _ _ _ _ us hl => match us, hl with | [_, _, _, _], _ => rfl⟩
  have F5 := fun_mk (st := s__law_book) l5 q5 k5
  have at__law_book : At K mg "_law_book" s__law_book ["pot", "letters", "most"] := ⟨_, _, F5, PySem.W.mg_of X G a5, F5.binds (ps := ["pot", "letters", "most"]) fun _ _ _ _ _ _ us hl => match us, hl with | [_, _, _], _ => rfl⟩
  have F6 := fun_mk (st := s__law_reading) l6 q6 k6
  have at__law_reading : At K mg "_law_reading" s__law_reading ["pot", "book", "letters", "most"] := ⟨_, _, F6, PySem.W.mg_of X G a6, F6.binds (ps := ["pot", "book", "letters", "most"]) fun _ _ _ _ _ _ us hl => match us, hl with | [_, _, _, _], _ => rfl⟩
  have F7 := fun_mk (st := s_is_small) l7 q7 k7
  have at_is_small : At K mg "is_small" s_is_small ["thing"] := ⟨_, _, F7, PySem.W.mg_of X G a7, F7.binds (ps := ["thing"]) fun _ _ _ _ _ _ us hl => match us, hl with | [_], _ => rfl⟩
  have F8 := fun_mk (st := s_is_reading) l8 q8 k8
  have at_is_reading : At K mg "is_reading" s_is_reading ["thing"] := ⟨_, _, F8, PySem.W.mg_of X G a8, F8.binds (ps := ["thing"]) fun _ _ _ _ _ _ us hl => match us, hl with | [_], _ => rfl⟩
  have F9 := fun_mk (st := s_is_writing) l9 q9 k9
  have at_is_writing : At K mg "is_writing" s_is_writing ["thing"] := ⟨_, _, F9, PySem.W.mg_of X G a9, F9.binds (ps := ["thing"]) fun _ _ _ _ _ _ us hl => match us, hl with | [_], _ => rfl⟩
  have F10 := fun_mk (st := s_is_count) l10 q10 k10
  have at_is_count : At K mg "is_count" s_is_count ["thing"] := ⟨_, _, F10, PySem.W.mg_of X G a10, F10.binds (ps := ["thing"]) fun _ _ _ _ _ _ us hl => match us, hl with | [_], _ => rfl⟩
  have F11 := fun_mk (st := s_is_word) l11 q11 k11
  have at_is_word : At K mg "is_word" s_is_word ["thing"] := ⟨_, _, F11, PySem.W.mg_of X G a11, F11.binds (ps := ["thing"]) fun _ _ _ _ _ _ us hl => match us, hl with | [_], _ => rfl⟩
  have F12 := fun_mk (st := s_are_joins) l12 q12 k12
  have at_are_joins : At K mg "are_joins" s_are_joins ["thing"] := ⟨_, _, F12, PySem.W.mg_of X G a12, F12.binds (ps := ["thing"]) fun _ _ _ _ _ _ us hl => match us, hl with | [_], _ => rfl⟩
  have F13 := fun_mk (st := s_is_book) l13 q13 k13
  have at_is_book : At K mg "is_book" s_is_book ["thing"] := ⟨_, _, F13, PySem.W.mg_of X G a13, F13.binds (ps := ["thing"]) fun _ _ _ _ _ _ us hl => match us, hl with | [_], _ => rfl⟩
  have F14 := fun_mk (st := s_need_both) l14 q14 k14
  have at_need_both : At K mg "need_both" s_need_both ["book", "reading"] := ⟨_, _, F14, PySem.W.mg_of X G a14, F14.binds (ps := ["book", "reading"]) fun _ _ _ _ _ _ us hl => match us, hl with | [_, _], _ => rfl⟩
  have F15 := fun_mk (st := s_Order_split_ahead) l15 q15 k15
  have at_Order_split_ahead : AtM K "Order" "split_ahead" "Order.split_ahead" s_Order_split_ahead ["self", "place", "kind", "word", "rank"] := ⟨_, _, _, cl_Order, ⟨a15, n15, k15⟩, F15, F15.binds (ps := ["self", "place", "kind", "word", "rank"]) fun _ _ _ _ _ _ us hl => match us, hl with | [_, _, _, _, _], _ => rfl⟩
  have F16 := fun_mk (st := s_Order_split_begun) l16 q16 k16
  have at_Order_split_begun : AtM K "Order" "split_begun" "Order.split_begun" s_Order_split_begun ["self", "place", "kind"] := ⟨_, _, _, cl_Order, ⟨a16, n16, k16⟩, F16, F16.binds (ps := ["self", "place", "kind"]) fun _ _ _ _ _ _ us hl => match us, hl with | [_, _, _], _ => rfl⟩
  have F17 := fun_mk (st := s_Order_split_at) l17 q17 k17
  have at_Order_split_at : AtM K "Order" "split_at" "Order.split_at" s_Order_split_at ["self", "place", "kind", "rank"] := ⟨_, _, _, cl_Order, ⟨a17, n17, k17⟩, F17, F17.binds (ps := ["self", "place", "kind", "rank"]) fun _ _ _ _ _ _ us hl => match us, hl with | [_, _, _, _], _ => rfl⟩
  have F18 := fun_mk (st := s_standing) l18 q18 k18
  have at_standing : At K mg "standing" s_standing ["book", "reading"] := ⟨_, _, F18, PySem.W.mg_of X G a18, F18.binds (ps := ["book", "reading"]) fun _ _ _ _ _ _ us hl => match us, hl with | [_, _], _ => rfl⟩
  have F19 := fun_mk (st := s_Order___init__) l19 q19 k19
  have at_Order___init__ : AtI K mg "Order" "Order.__init__" s_Order___init__ ["self", "book", "reading"] := ⟨_, _, _, cl_Order, PySem.W.mg_of X G y_Order, ⟨p5_Order, a19, n19, p6_Order⟩, F19, F19.binds (ps := ["self", "book", "reading"]) fun _ _ _ _ _ _ us hl => match us, hl with | [_, _, _], _ => rfl⟩
  have F20 := fun_mk (st := s_kind_behind) l20 q20 k20
  have at_kind_behind : At K mg "kind_behind" s_kind_behind ["book", "behind"] := ⟨_, _, F20, PySem.W.mg_of X G a20, F20.binds (ps := ["book", "behind"]) fun _ _ _ _ _ _ us hl => match us, hl with | [_, _], _ => rfl⟩
  have F21 := funK_mk (st := s_cheapest) (b := "behind") l21 q21 k21 e21
  have at_cheapest : AtK K mg "cheapest" "behind" s_cheapest ["book", "reading", "behind"] := ⟨_, _, F21.fun, PySem.W.mg_of X G a21, kwb_mk (ps := ["book", "reading", "behind"]) F21 2 rfl (fun _ _ _ _ _ _ us k hl => match us, hl with | [_, _], _ => ⟨_, _, _, _, _, _, rfl, rfl, rfl⟩) (fun _ _ _ _ _ _ us k hl => match us, hl with | [_, _], _ => rfl)⟩
  have F22 := fun_mk (st := s_is_raw) l22 q22 k22
  have at_is_raw : At K mg "is_raw" s_is_raw ["book", "thing"] := ⟨_, _, F22, PySem.W.mg_of X G a22, F22.binds (ps := ["book", "thing"]) fun _ _ _ _ _ _ us hl => match us, hl with | [_, _], _ => rfl⟩
  have F23 := fun_mk (st := s_parts_to) l23 q23 k23
  have at_parts_to : At K mg "parts_to" s_parts_to ["book", "reading", "thing"] := ⟨_, _, F23, PySem.W.mg_of X G a23, F23.binds (ps := ["book", "reading", "thing"]) fun _ _ _ _ _ _ us hl => match us, hl with | [_, _, _], _ => rfl⟩
  have F24 := fun_mk (st := s_is_split) l24 q24 k24
  have at_is_split : At K mg "is_split" s_is_split ["book", "reading", "thing"] := ⟨_, _, F24, PySem.W.mg_of X G a24, F24.binds (ps := ["book", "reading", "thing"]) fun _ _ _ _ _ _ us hl => match us, hl with | [_, _, _], _ => rfl⟩
  have F25 := fun_mk (st := s_text_made) l25 q25 k25
  have at_text_made : At K mg "text_made" s_text_made ["thing"] := ⟨_, _, F25, PySem.W.mg_of X G a25, F25.binds (ps := ["thing"]) fun _ _ _ _ _ _ us hl => match us, hl with | [_], _ => rfl⟩
  have F26 := funK_mk (st := s_cost_of) (b := "behind") l26 q26 k26 e26
  have at_cost_of : AtK K mg "cost_of" "behind" s_cost_of ["book", "split", "behind"] := ⟨_, _, F26.fun, PySem.W.mg_of X G a26, kwb_mk (ps := ["book", "split", "behind"]) F26 2 rfl (fun _ _ _ _ _ _ us k hl => match us, hl with | [_, _], _ => ⟨_, _, _, _, _, _, rfl, rfl, rfl⟩) (fun _ _ _ _ _ _ us k hl => match us, hl with | [_, _], _ => rfl)⟩
  have F27 := fun_mk (st := s__law_at) l27 q27 k27
  have at__law_at : At K mg "_law_at" s__law_at ["book", "reading", "place"] := ⟨_, _, F27, PySem.W.mg_of X G a27, F27.binds (ps := ["book", "reading", "place"]) fun _ _ _ _ _ _ us hl => match us, hl with | [_, _, _], _ => rfl⟩
  have F28 := fun_mk (st := s__law_front) l28 q28 k28
  have at__law_front : At K mg "_law_front" s__law_front ["book", "reading"] := ⟨_, _, F28, PySem.W.mg_of X G a28, F28.binds (ps := ["book", "reading"]) fun _ _ _ _ _ _ us hl => match us, hl with | [_, _], _ => rfl⟩
  have F29 := fun_mk (st := s__law_least) l29 q29 k29
  have at__law_least : At K mg "_law_least" s__law_least ["book", "reading"] := ⟨_, _, F29, PySem.W.mg_of X G a29, F29.binds (ps := ["book", "reading"]) fun _ _ _ _ _ _ us hl => match us, hl with | [_, _], _ => rfl⟩
  have F30 := fun_mk (st := s__law_key) l30 q30 k30
  have at__law_key : At K mg "_law_key" s__law_key ["book", "split", "start"] := ⟨_, _, F30, PySem.W.mg_of X G a30, F30.binds (ps := ["book", "split", "start"]) fun _ _ _ _ _ _ us hl => match us, hl with | [_, _, _], _ => rfl⟩
  have F31 := fun_mk (st := s__law_first_right) l31 q31 k31
  have at__law_first_right : At K mg "_law_first_right" s__law_first_right ["book", "left", "start", "told"] := ⟨_, _, F31, PySem.W.mg_of X G a31, F31.binds (ps := ["book", "left", "start", "told"]) fun _ _ _ _ _ _ us hl => match us, hl with | [_, _, _, _], _ => rfl⟩
  have F32 := fun_mk (st := s__law_right) l32 q32 k32
  have at__law_right : At K mg "_law_right" s__law_right ["pot", "wide"] := ⟨_, _, F32, PySem.W.mg_of X G a32, F32.binds (ps := ["pot", "wide"]) fun _ _ _ _ _ _ us hl => match us, hl with | [_, _], _ => rfl⟩
  have F33 := fun_mk (st := s__law_pot) l33 q33 k33
  have at__law_pot : At K mg "_law_pot" s__law_pot ["script", "k"] := ⟨_, _, F33, PySem.W.mg_of X G a33, F33.binds (ps := ["script", "k"]) fun _ _ _ _ _ _ us hl => match us, hl with | [_, _], _ => rfl⟩
  have F34 := fun_mk (st := s_law) l34 q34 k34
  have at_law : At K mg "law" s_law ["script"] := ⟨_, _, F34, PySem.W.mg_of X G a34, F34.binds (ps := ["script"]) fun _ _ _ _ _ _ us hl => match us, hl with | [_], _ => rfl⟩
  have e := hfa.symm.trans (PySem.W.mg_of X G a34)
  cases e
  refine ⟨PySem.W.fnOf "law" "law" (defArgs s_law) (defBody s_law) (defScope s_law) .none kV34 dc34 pm34 an34 cd34 ct34, fun s v => .of_eq rfl, fun base _ _ TB => ?_⟩
  have c__law_take : Kn P w K mg base "_law_take" 1 ["pot", "many"] sp__law_take := kn__law_take T at__law_take
  have c__law_letters : Kn P w K mg base "_law_letters" 2 ["pot"] sp__law_letters := kn__law_letters T at__law_letters c__law_take
  have c__law_cost : Kn P w K mg base "_law_cost" 2 ["pot", "way"] sp__law_cost := kn__law_cost T at__law_cost c__law_take
  have c__law_word : Kn P w K mg base "_law_word" 3 ["pot", "letters", "kinds", "way"] sp__law_word := kn__law_word T at__law_word c__law_take c__law_cost
  have c__law_book : Kn P w K mg base "_law_book" 4 ["pot", "letters", "most"] sp__law_book := kn__law_book T at__law_book c__law_take c__law_word c__law_cost
  have c__law_reading : Kn P w K mg base "_law_reading" 2 ["pot", "book", "letters", "most"] sp__law_reading := kn__law_reading T at__law_reading c__law_take
  have c_is_small : Kn P w K mg base "is_small" 1 ["thing"] sp_is_small := kn_is_small T at_is_small
  have c_is_reading : Kn P w K mg base "is_reading" 2 ["thing"] sp_is_reading := kn_is_reading T at_is_reading c_is_small
  have c_is_writing : Kn P w K mg base "is_writing" 1 ["thing"] sp_is_writing := kn_is_writing T at_is_writing
  have c_is_count : Kn P w K mg base "is_count" 1 ["thing"] sp_is_count := kn_is_count T at_is_count
  have c_is_word : Kn P w K mg base "is_word" 3 ["thing"] sp_is_word := kn_is_word T at_is_word c_is_reading c_is_writing c_is_count
  have c_are_joins : Kn P w K mg base "are_joins" 2 ["thing"] sp_are_joins := kn_are_joins T at_are_joins c_is_count
  have c_is_book : Kn P w K mg base "is_book" 4 ["thing"] sp_is_book := kn_is_book T at_is_book c_is_word c_are_joins
  have c_need_both : Kn P w K mg base "need_both" 5 ["book", "reading"] sp_need_both := kn_need_both T at_need_both c_is_book c_is_reading
  have c_Order_split_at : KnM P w K mg base CX0 "Order" "split_at" 127 ["self", "place", "kind", "rank"] sp_Order_split_at := kn_Order_split_at T at_Order_split_ahead at_Order_split_begun at_Order_split_at
  have c_standing : Kn P w K mg base "standing" 1 ["book", "reading"] sp_standing := kn_standing T at_standing
  have c_Order___init__ : KnI P w K mg base "Order" 2 ["self", "book", "reading"] sp_Order___init__ := kn_Order___init__ T at_Order___init__ c_standing
  have c_kind_behind : Kn P w K mg base "kind_behind" 2 ["book", "behind"] sp_kind_behind := kn_kind_behind T at_kind_behind c_is_count
  have c_cheapest : KnK P w K mg base "cheapest" "behind" 128 ["book", "reading", "behind"] sp_cheapest := kn_cheapest T at_cheapest c_need_both c_Order_split_at c_Order___init__ c_kind_behind
  have c_is_raw : Kn P w K mg base "is_raw" 2 ["book", "thing"] sp_is_raw := kn_is_raw T at_is_raw c_is_small c_is_count
  have c_parts_to : Kn P w K mg base "parts_to" 4 ["book", "reading", "thing"] sp_parts_to := kn_parts_to T at_parts_to c_is_raw c_is_word
  have c_is_split : Kn P w K mg base "is_split" 6 ["book", "reading", "thing"] sp_is_split := kn_is_split T at_is_split c_need_both c_parts_to
  have c_text_made : Kn P w K mg base "text_made" 1 ["thing"] sp_text_made := kn_text_made T at_text_made
  have c_cost_of : KnK P w K mg base "cost_of" "behind" 5 ["book", "split", "behind"] sp_cost_of := kn_cost_of T at_cost_of c_is_book c_text_made c_parts_to c_kind_behind
  have c__law_at : Kn P w K mg base "_law_at" 1 ["book", "reading", "place"] sp__law_at := kn__law_at T at__law_at
  have c__law_front : Kn P w K mg base "_law_front" 2 ["book", "reading"] sp__law_front := kn__law_front T at__law_front c__law_at
  have c__law_least : Kn P w K mg base "_law_least" 3 ["book", "reading"] sp__law_least := kn__law_least T at__law_least c__law_front
  have c__law_key : Kn P w K mg base "_law_key" 1 ["book", "split", "start"] sp__law_key := kn__law_key T at__law_key
  have c__law_first_right : Kn P w K mg base "_law_first_right" 129 ["book", "left", "start", "told"] sp__law_first_right := kn__law_first_right T at__law_first_right c_cheapest c__law_key c__law_at
  have c__law_right : Kn P w K mg base "_law_right" 130 ["pot", "wide"] sp__law_right := kn__law_right T at__law_right c__law_letters c__law_book c__law_reading c__law_take c_cheapest c_is_split c_cost_of c__law_least c__law_first_right
  have c__law_pot : Kn P w K mg base "_law_pot" 1 ["script", "k"] sp__law_pot := kn__law_pot T at__law_pot
  exact fnD F34 sc_law mono_spLaw (len_spLaw rfl) (d_law T c__law_right c__law_pot _) pf_law
end Qk11
open PySem PySem.W PyProof.Rows in
set_option maxRecDepth 100000 in
set_option maxHeartbeats 0 in
theorem PySem.Challenge.cw_asshown_k11_whole_rests_of_the_cheapest_holds : PySem.Challenge.rw_asshown_k11_whole_rests_of_the_cheapest.Holds := by
  w_on; o_law
  refine holds_open (r := OpenLaw.row PySem.Challenge.rw_asshown_k11_whole_rests_of_the_cheapest) (q := Qk11.hdq) (loose := Qk11.hdn) (Xt := fun s => xlAt Qk11.hdq [] s && recOk (RowW.records Qk11.hdR.toRowW) s) (XP := XL Qk11.hdq []) (Yf := Hook.obs (kHook Qk11.heads.heap_39 Qk11.adrs Qk11.ek)) (Ya := Hook.val (kHook Qk11.heads.heap_39 Qk11.adrs Qk11.ek)) (YP := Hook.says (kHook Qk11.heads.heap_39 Qk11.adrs Qk11.ek)) (N := 41000) (HeadRun.left_oneK (M := 20000) (by kernel_rfl) (by rfl) (fun s => by kernel_rfl) (by rfl) Qk11.run) (Hook.of (kHook Qk11.heads.heap_39 Qk11.adrs Qk11.ek)) (Hook.keeps (kHook Qk11.heads.heap_39 Qk11.adrs Qk11.ek)) (fun s e => xl_of s (Bool.and_eq_true_iff.mp e).1) XL.keeps (by rfl) (by rfl) (by rfl) (fun s e => recFacts_of (Bool.and_eq_true_iff.mp e).2) (by rfl) (by first | assumption | decide +kernel) (by decide +kernel) ⟨rfl, rfl, rfl, rfl, rfl, by decide +kernel⟩ ?hw ?hc
  case hw => w_witness2
  k_fill
  refine Dl.law_walk (l := PySem.Challenge.rw_asshown_k11_whole_rests_of_the_cheapest) (k := 131) (x := "script") rfl rfl ⟨rfl, by decide, by decide⟩ (fun w h Y => by first | exact PySem.W.kIn_of Y | exact PySem.W.km_in_of Y) (fun w => by kernel_rfl) (fun w x hx => ?D) ?F
  case D =>
    simp only [Dl.lamNames, List.mem_cons, List.not_mem_nil, or_false] at hx
    rcases hx with rfl | rfl | rfl
    all_goals first
      | exact fun _ _ => ⟨_, rfl⟩
      | exact fun cp h => nomatch (show (none : Option (Addr × Addr)) = some cp from (by kernel_rfl : none = _).trans h)
  case F =>
    intro w mg fa h KX G hmg
    refine' Qk11.all_mk KX G hmg ?y_Order ?p1_Order ?p2_Order ?p3_Order ?p4_Order ?p5_Order ?p6_Order ?g_Order_split_end ?g_Order_split_joins ?g_Order_split_known ?g_Order_split_words ?a1 ?l1 ?q1 ?k1 ?a2 ?l2 ?q2 ?k2 ?a3 ?l3 ?q3 ?k3 ?a4 ?l4 ?q4 ?k4 ?a5 ?l5 ?q5 ?k5 ?a6 ?l6 ?q6 ?k6 ?a7 ?l7 ?q7 ?k7 ?a8 ?l8 ?q8 ?k8 ?a9 ?l9 ?q9 ?k9 ?a10 ?l10 ?q10 ?k10 ?a11 ?l11 ?q11 ?k11 ?a12 ?l12 ?q12 ?k12 ?a13 ?l13 ?q13 ?k13 ?a14 ?l14 ?q14 ?k14 ?a15 ?n15 ?l15 ?q15 ?k15 ?a16 ?n16 ?l16 ?q16 ?k16 ?a17 ?n17 ?l17 ?q17 ?k17 ?a18 ?l18 ?q18 ?k18 ?a19 ?n19 ?l19 ?q19 ?k19 ?a20 ?l20 ?q20 ?k20 ?a21 ?l21 ?q21 ?k21 ?e21 ?a22 ?l22 ?q22 ?k22 ?a23 ?l23 ?q23 ?k23 ?a24 ?l24 ?q24 ?k24 ?a25 ?l25 ?q25 ?k25 ?a26 ?l26 ?q26 ?k26 ?e26 ?a27 ?l27 ?q27 ?k27 ?a28 ?l28 ?q28 ?k28 ?a29 ?l29 ?q29 ?k29 ?a30 ?l30 ?q30 ?k30 ?a31 ?l31 ?q31 ?k31 ?a32 ?l32 ?q32 ?k32 ?a33 ?l33 ?q33 ?k33 ?a34 ?l34 ?q34 ?k34 ?z_all ?z_bool ?z_enumerate ?z_int ?z_isinstance ?z_len ?z_list ?z_max ?z_min ?z_range ?z_str ?z_sum ?z_tuple ?y_LARGE ?y_LONGEST ?y_MOST ?y_PLAIN ?y_SMALL
    (case y_Order => k_is)
    (case p1_Order => k_is)
    (case p2_Order => k_is)
    (case p3_Order => k_is)
    (case p4_Order => k_is)
    (case p5_Order => k_is)
    (case p6_Order => k_is)
    (case g_Order_split_end => k_is)
    (case g_Order_split_joins => k_is)
    (case g_Order_split_known => k_is)
    (case g_Order_split_words => k_is)
    (case a1 => k_is)
    (case l1 => k_is)
    (case q1 => k_is)
    (case k1 => k_is)
    (case a2 => k_is)
    (case l2 => k_is)
    (case q2 => k_is)
    (case k2 => k_is)
    (case a3 => k_is)
    (case l3 => k_is)
    (case q3 => k_is)
    (case k3 => k_is)
    (case a4 => k_is)
    (case l4 => k_is)
    (case q4 => k_is)
    (case k4 => k_is)
    (case a5 => k_is)
    (case l5 => k_is)
    (case q5 => k_is)
    (case k5 => k_is)
    (case a6 => k_is)
    (case l6 => k_is)
    (case q6 => k_is)
    (case k6 => k_is)
    (case a7 => k_is)
    (case l7 => k_is)
    (case q7 => k_is)
    (case k7 => k_is)
    (case a8 => k_is)
    (case l8 => k_is)
    (case q8 => k_is)
    (case k8 => k_is)
    (case a9 => k_is)
    (case l9 => k_is)
    (case q9 => k_is)
    (case k9 => k_is)
    (case a10 => k_is)
    (case l10 => k_is)
    (case q10 => k_is)
    (case k10 => k_is)
    (case a11 => k_is)
    (case l11 => k_is)
    (case q11 => k_is)
    (case k11 => k_is)
    (case a12 => k_is)
    (case l12 => k_is)
    (case q12 => k_is)
    (case k12 => k_is)
    (case a13 => k_is)
    (case l13 => k_is)
    (case q13 => k_is)
    (case k13 => k_is)
    (case a14 => k_is)
    (case l14 => k_is)
    (case q14 => k_is)
    (case k14 => k_is)
    (case a15 => k_is)
    (case n15 => k_is)
    (case l15 => k_is)
    (case q15 => k_is)
    (case k15 => k_is)
    (case a16 => k_is)
    (case n16 => k_is)
    (case l16 => k_is)
    (case q16 => k_is)
    (case k16 => k_is)
    (case a17 => k_is)
    (case n17 => k_is)
    (case l17 => k_is)
    (case q17 => k_is)
    (case k17 => k_is)
    (case a18 => k_is)
    (case l18 => k_is)
    (case q18 => k_is)
    (case k18 => k_is)
    (case a19 => k_is)
    (case n19 => k_is)
    (case l19 => k_is)
    (case q19 => k_is)
    (case k19 => k_is)
    (case a20 => k_is)
    (case l20 => k_is)
    (case q20 => k_is)
    (case k20 => k_is)
    (case a21 => k_is)
    (case l21 => k_is)
    (case q21 => k_is)
    (case k21 => k_is)
    (case e21 => k_is)
    (case a22 => k_is)
    (case l22 => k_is)
    (case q22 => k_is)
    (case k22 => k_is)
    (case a23 => k_is)
    (case l23 => k_is)
    (case q23 => k_is)
    (case k23 => k_is)
    (case a24 => k_is)
    (case l24 => k_is)
    (case q24 => k_is)
    (case k24 => k_is)
    (case a25 => k_is)
    (case l25 => k_is)
    (case q25 => k_is)
    (case k25 => k_is)
    (case a26 => k_is)
    (case l26 => k_is)
    (case q26 => k_is)
    (case k26 => k_is)
    (case e26 => k_is)
    (case a27 => k_is)
    (case l27 => k_is)
    (case q27 => k_is)
    (case k27 => k_is)
    (case a28 => k_is)
    (case l28 => k_is)
    (case q28 => k_is)
    (case k28 => k_is)
    (case a29 => k_is)
    (case l29 => k_is)
    (case q29 => k_is)
    (case k29 => k_is)
    (case a30 => k_is)
    (case l30 => k_is)
    (case q30 => k_is)
    (case k30 => k_is)
    (case a31 => k_is)
    (case l31 => k_is)
    (case q31 => k_is)
    (case k31 => k_is)
    (case a32 => k_is)
    (case l32 => k_is)
    (case q32 => k_is)
    (case k32 => k_is)
    (case a33 => k_is)
    (case l33 => k_is)
    (case q33 => k_is)
    (case k33 => k_is)
    (case a34 => k_is)
    (case l34 => k_is)
    (case q34 => k_is)
    (case k34 => k_is)
    (case z_all => k_is)
    (case z_bool => k_is)
    (case z_enumerate => k_is)
    (case z_int => k_is)
    (case z_isinstance => k_is)
    (case z_len => k_is)
    (case z_list => k_is)
    (case z_max => k_is)
    (case z_min => k_is)
    (case z_range => k_is)
    (case z_str => k_is)
    (case z_sum => k_is)
    (case z_tuple => k_is)
    (case y_LARGE => k_is)
    (case y_LONGEST => k_is)
    (case y_MOST => k_is)
    (case y_PLAIN => k_is)
    (case y_SMALL => k_is)
