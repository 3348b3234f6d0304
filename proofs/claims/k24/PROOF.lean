import PyProof.Rows.All
import Wide.All
import OpenK.AllK
import Wide.FinOn
import HandS.ForMost
import HandS.Lambda
import HandS.Exc
import HandS.ExcCtx
import HandS.WordsExc
import HandS.Wide
import HandS.TupAny
import HandS.IsInst
import HandS.Style
import HandS.TupLen
import HandS.Codes
import PyProof.Rows.IntBool
import PyProof.StrOps2
import PyProof.NeKinds
import HandS.EndBits
import HandS.More
import HandS.RaiseMore
import KE.OsRunLaw
import PyProof.CallStr
import KE.IntBitsLaws
import HandS.Dict
import HandS.DictComp
import PyProof.Draws
import PyProof.EnumMake
import PyProof.ReprRoads
import PyProof.ReprBulk
import PyProof.FitsInt
import HandS.Defaults
import HandS.MakeKwOnly
import KE.KDictWalk
import KE.KDictItemsList
import KE.SortData
import HandS.DictTup
import KE.SortKeyHeap
import KE.KSortKey
import HandS.SortKw
import KE.LtData
import HandS.Iter
import HandS.SetKeys
import HandS.ForExc
import HandS.ExcIs
import HandS.TryOnly
import HandS.Zip
import PyProof.ListStr
import HandS.TupMul
import PyProof.Rows.ReprOcc
import HandS.ExcValue
import KE.KExcStr
import HandS.Deep
import KE.DataMinMax
import PySem.Challenge.RW_asshown_k24_uses_refused
set_option Elab.async false
set_option linter.all false
set_option autoImplicit false
set_option maxRecDepth 100000
set_option maxHeartbeats 4000000
namespace Dl
open PySem PySem.Spec PyProof.Rows L2
inductive D where
  | non | bl (b : Bool) | int (i : Int) | str (x : Str)
  | tup (xs : List D) | lst (xs : List D) | frl (xs : List D)
  | dk (ks : List Key) (xs : List D) | dt (ks : List (List Key)) (xs : List D)
  | ref (l : Nat)
  | exc (x : Str) (ks : List Str) (xs : List D)
inductive MO where
  | lst (xs : List D) | dk (ks : List Key) (xs : List D) | dt (ks : List (List Key)) (xs : List D)
  | ins (c : Str) (fs : List (Str × D))
  | fdk (ks : List Key) (xs : List D) | fdt (ks : List (List Key)) (xs : List D)
def MO.live : MO → Bool
  | .fdk _ _ => false
  | .fdt _ _ => false
  | _ => true
abbrev Sto := List (Option MO)
abbrev En := List (Option D)
def SqF (K : PySem.W.Frag) (F : Hp) (a : Addr) (xs : List V) : Prop :=
  (∃ o, F a = some (.frz o (.lst xs))) ∨
    ∃ (o : Obj) (its : Array Value) (n : Nat), K.lookup a = some o ∧ o.cls = .type "list" ∧ o.dict = none ∧ o.data = .seq its n ∧ its.size ≤ sizeLine ∧ Vals xs its.toList
theorem SqF.seq {K : PySem.W.Frag} {F : Hp} {a : Addr} {xs : List V} (h : SqF K F a xs) : SqL K F a xs := by
  rcases h with ⟨o, h⟩ | h
  · exact .inl (.inr ⟨o, h⟩)
  · exact .inr h
theorem SqF.same {K : PySem.W.Frag} {F F' : Hp} {a : Addr} {xs : List V} (e : Same F F') (h : SqF K F a xs) : SqF K F' a xs := by
  rcases h with ⟨o, h⟩ | h
  · exact .inl ⟨o, e _ _ h⟩
  · exact .inr h
def ExA (cls : Value) (d : Option Addr) (a : Addr) : HO := .ext fun h => ∃ (oe : Obj) (vs : Array Value), h.get? a = some oe ∧ L2N.Zn cls d oe ∧ oe.data = .fields vs
def ExT (cls : Value) (t : Addr) (a : Addr) : HO := .ext fun h => ∃ (oe : Obj) (vs : Array Value), h.get? a = some oe ∧ Zc cls none oe ∧ oe.data = .fields vs ∧ vs[0]? = some (.ref t)
def ExAt (K : PySem.W.Frag) (F : Hp) (x : Str) (ks : List Str) (a : Addr) (fvs : List (Str × V)) : Prop :=
  ∃ cls, PySem.W.nsIn K mainGlobals x = some (some cls) ∧
    ((F a = some (ExA cls none a) ∧ fvs = [] ∧ ks = []) ∨ (∃ d, F a = some (ExA cls (some d) a) ∧ F d = some (.xd fvs) ∧ fvs.map (·.1) = ks ∧ ks ≠ [] ∧ ks ≠ [("" : Str)]) ∨ ∃ t z, F a = some (ExT cls t a) ∧ F t = some (.tup [.str z]) ∧ fvs = [(("" : Str), V.str z)] ∧ ks = [("" : Str)])
theorem ExAt.same {K : PySem.W.Frag} {F F' : Hp} {x : Str} {ks : List Str} {a : Addr} {fvs : List (Str × V)} (e : Same F F') : ExAt K F x ks a fvs → ExAt K F' x ks a fvs := fun ⟨cls, h, q⟩ =>
  ⟨cls, h, q.elim (fun ⟨a, b, c⟩ => .inl ⟨e _ _ a, b, c⟩) fun q => .inr (q.elim (fun ⟨d, a, b, c⟩ => .inl ⟨d, e _ _ a, e _ _ b, c⟩) fun ⟨t, z, a, b, c⟩ => .inr ⟨t, z, e _ _ a, e _ _ b, c⟩)⟩
theorem sqT_same {K : PySem.W.Frag} {H H' : Hp} {a : Addr} {xs : List V} (e : Same H H') (h : SqT K H a xs) : SqT K H' a xs := by
  rcases h with (h | ⟨o, h⟩) | h
  · exact .inl (.inl (e _ _ h))
  · exact .inl (.inr ⟨o, e _ _ h⟩)
  · exact .inr h
structure TpF (K : PySem.W.Frag) (F : Hp) (a : Addr) (vs : List V) : Prop where
  q : SqT K F a vs
  t : F a = some (.tup vs) ∨ vs = [] ∨ ∃ e r, vs = V.ref e :: r
theorem TpF.of {K : PySem.W.Frag} {F : Hp} {a : Addr} {vs : List V} (h : F a = some (.tup vs)) : TpF K F a vs := ⟨.of h, .inl h⟩
theorem TpF.same {K : PySem.W.Frag} {F F' : Hp} {a : Addr} {vs : List V} (h : TpF K F a vs) (e : Same F F') : TpF K F' a vs := ⟨sqT_same e h.q, h.t.imp (e _ _) id⟩
mutual
inductive Dat (K : PySem.W.Frag) (F : Hp) (A : List Addr) : D → V → Prop
  | non : Dat K F A .non .non
  | bl (b : Bool) : Dat K F A (.bl b) (.bl b)
  | int (i : Int) : Dat K F A (.int i) (.int i)
  | str (x : Str) (h : x.length ≤ sizeLine) : Dat K F A (.str x) (.str x)
  | tup {a : Addr} {vs : List V} {ds : List D} : TpF K F a vs → DatL K F A ds vs → Dat K F A (.tup ds) (.ref a)
  | lst {a : Addr} {vs : List V} {ds : List D} : F a = some (.lst vs) → DatL K F A ds vs → Dat K F A (.lst ds) (.ref a)
  | frl {a : Addr} {vs : List V} {ds : List D} : SqF K F a vs → DatL K F A ds vs → Dat K F A (.frl ds) (.ref a)
  | dk {a : Addr} {kvs : List (Key × V)} {ds : List D} : F a = some (.dK kvs) → DatL K F A ds (kvs.map (·.2)) → Dat K F A (.dk (kvs.map (·.1)) ds) (.ref a)
  | dt {a : Addr} {kvs : List (List Key × V)} {ds : List D} : F a = some (.dT kvs) → DatL K F A ds (kvs.map (·.2)) → Dat K F A (.dt (kvs.map (·.1)) ds) (.ref a)
  | ref {l : Nat} {a : Addr} : A[l]? = some a → Dat K F A (.ref l) (.ref a)
  | exc {x : Str} {ks : List Str} {xs : List D} {a : Addr} {fvs : List (Str × V)} : ExAt K F x ks a fvs → DatL K F A xs (fvs.map (·.2)) → Dat K F A (.exc x ks xs) (.ref a)
inductive DatL (K : PySem.W.Frag) (F : Hp) (A : List Addr) : List D → List V → Prop
  | nil : DatL K F A [] []
  | cons {d : D} {ds : List D} {v : V} {vs : List V} : Dat K F A d v → DatL K F A ds vs → DatL K F A (d :: ds) (v :: vs)
end
mutual
theorem Dat.mono {K : PySem.W.Frag} {F F' : Hp} {A A' : List Addr} (e : Same F F') (p : ∀ (l : Nat) (a : Addr), A[l]? = some a → A'[l]? = some a) : ∀ (d : D) (v : V), Dat K F A d v → Dat K F' A' d v
  | .non, _, h => by cases h; exact .non
  | .bl _, _, h => by cases h; exact .bl _
  | .int _, _, h => by cases h; exact .int _
  | .str _, _, h => by
    cases h with
    | str _ hx => exact .str _ hx
  | .tup ds, _, h => by
    cases h with
    | tup hs ha => exact .tup (hs.same e) (DatL.mono e p ds _ ha)
  | .lst ds, _, h => by
    cases h with
    | lst hs ha => exact .lst (e _ _ hs) (DatL.mono e p ds _ ha)
  | .frl ds, _, h => by
    cases h with
    | frl hs ha => exact .frl (hs.same e) (DatL.mono e p ds _ ha)
  | .dk ks ds, _, h => by
    cases h with
    | dk hs ha => exact .dk (e _ _ hs) (DatL.mono e p ds _ ha)
  | .dt ks ds, _, h => by
    cases h with
    | dt hs ha => exact .dt (e _ _ hs) (DatL.mono e p ds _ ha)
  | .ref _, _, h => by
    cases h with
    | ref ha => exact .ref (p _ _ ha)
  | .exc x ks xs, _, h => by
    cases h with
    | exc h1 h2 => exact .exc (h1.same e) (DatL.mono e p xs _ h2)
theorem DatL.mono {K : PySem.W.Frag} {F F' : Hp} {A A' : List Addr} (e : Same F F') (p : ∀ (l : Nat) (a : Addr), A[l]? = some a → A'[l]? = some a) : ∀ (ds : List D) (vs : List V), DatL K F A ds vs → DatL K F' A' ds vs
  | [], _, h => by cases h; exact .nil
  | d :: ds, _, h => by
    cases h with
    | cons h1 h2 => exact .cons (Dat.mono e p d _ h1) (DatL.mono e p ds _ h2)
end
section
variable {K : PySem.W.Frag} {F : Hp} {A : List Addr}
theorem DatL.length : ∀ {ds : List D} {vs : List V}, DatL K F A ds vs → vs.length = ds.length
  | [], _, h => by cases h; rfl
  | _ :: ds, _, h => by
    cases h with
    | cons _ h2 => simp [DatL.length h2]
theorem DatL.get : ∀ {ds : List D} {vs : List V} {i : Nat} {d : D}, DatL K F A ds vs → ds[i]? = some d → ∃ v, vs[i]? = some v ∧ Dat K F A d v
  | [], _, _, _, _, e => by simp at e
  | d :: ds, _, 0, _, h, e => by
    cases h with
    | cons h1 h2 => simp at e; subst e; exact ⟨_, rfl, h1⟩
  | d :: ds, _, i + 1, _, h, e => by
    cases h with
    | cons h1 h2 =>
      obtain ⟨v, e1, h3⟩ := DatL.get (i := i) h2 (by simpa using e)
      exact ⟨v, by simpa using e1, h3⟩
theorem DatL.get' {ds : List D} {vs : List V} {i : Nat} {v : V} (h : DatL K F A ds vs) (e : vs[i]? = some v) : ∃ d, ds[i]? = some d ∧ Dat K F A d v := by
  have hl : i < ds.length := by rw [← h.length]; exact (List.getElem?_eq_some_iff.mp e).1
  obtain ⟨v', e', hd⟩ := h.get (List.getElem?_eq_getElem hl)
  rw [e] at e'; cases e'
  exact ⟨_, List.getElem?_eq_getElem hl, hd⟩
theorem DatL.append : ∀ {ds es : List D} {vs ws : List V}, DatL K F A ds vs → DatL K F A es ws → DatL K F A (ds ++ es) (vs ++ ws)
  | [], _, _, _, h, g => by cases h; exact g
  | _ :: ds, _, _, _, h, g => by
    cases h with
    | cons h1 h2 => exact .cons h1 (DatL.append h2 g)
theorem DatL.set : ∀ {ds : List D} {vs : List V} {d : D} {v : V} (i : Nat), Dat K F A d v → DatL K F A ds vs → DatL K F A (ds.set i d) (vs.set i v)
  | [], _, _, _, _, _, h => by cases h; exact .nil
  | _ :: ds, _, _, _, 0, g, h => by
    cases h with
    | cons h1 h2 => exact .cons g h2
  | _ :: ds, _, _, _, i + 1, g, h => by
    cases h with
    | cons h1 h2 => exact .cons h1 (DatL.set i g h2)
theorem DatL.take : ∀ {ds : List D} {vs : List V} (n : Nat), DatL K F A ds vs → DatL K F A (ds.take n) (vs.take n)
  | _, _, 0, _ => .nil
  | [], _, _ + 1, h => by cases h; exact .nil
  | _ :: ds, _, n + 1, h => by
    cases h with
    | cons h1 h2 => exact .cons h1 (DatL.take n h2)
theorem DatL.drop : ∀ {ds : List D} {vs : List V} (n : Nat), DatL K F A ds vs → DatL K F A (ds.drop n) (vs.drop n)
  | _, _, 0, h => h
  | [], _, _ + 1, h => by cases h; exact .nil
  | _ :: ds, _, n + 1, h => by
    cases h with
    | cons h1 h2 => exact DatL.drop n h2
theorem DatL.reverse {ds : List D} {vs : List V} (h : DatL K F A ds vs) : DatL K F A ds.reverse vs.reverse := by
  induction ds generalizing vs with
  | nil => cases h; exact .nil
  | cons d ds ih =>
    cases h with
    | cons h1 h2 =>
      rw [List.reverse_cons, List.reverse_cons]
      exact (ih h2).append (.cons h1 .nil)
theorem DatL.eraseIdx : ∀ {ds : List D} {vs : List V} (i : Nat), DatL K F A ds vs → DatL K F A (ds.eraseIdx i) (vs.eraseIdx i)
  | [], _, _, h => by cases h; exact .nil
  | _ :: ds, _, 0, h => by
    cases h with
    | cons h1 h2 => exact h2
  | _ :: ds, _, i + 1, h => by
    cases h with
    | cons h1 h2 => exact .cons h1 (DatL.eraseIdx i h2)
theorem DatL.strs : ∀ {xs : List Str} {vs : List V}, DatL K F A (xs.map D.str) vs → vs = xs.map V.str
  | [], _, h => by cases h; rfl
  | x :: xs, _, h => by
    cases h with
    | cons h1 h2 => cases h1; rw [DatL.strs h2]; rfl
theorem DatL.bls : ∀ {xs : List Bool} {vs : List V}, DatL K F A (xs.map D.bl) vs → vs = xs.map V.bl
  | [], _, h => by cases h; rfl
  | x :: xs, _, h => by
    cases h with
    | cons h1 h2 => cases h1; rw [DatL.bls h2]; rfl
theorem DatL.of_ints : ∀ (xs : List Int), DatL K F A (xs.map D.int) (xs.map V.int)
  | [] => .nil
  | x :: xs => .cons (.int x) (DatL.of_ints xs)
end
def Live (A : List Addr) (s : Sto) (a : Addr) : Prop := ∃ (l : Nat) (mo : MO), s[l]? = some (some mo) ∧ A[l]? = some a ∧ mo.live = true
open Classical in
noncomputable def Fz (B : List Addr) (H : Hp) (A : List Addr) (s : Sto) : Hp := fun a => if Live A s a ∨ a ∈ B ∨ ∃ ps, H a = some (.tbl ps) then none else H a
theorem fz_of {B : List Addr} {H : Hp} {A : List Addr} {s : Sto} {a : Addr} {o : HO} (h : Fz B H A s a = some o) : H a = some o ∧ ¬ Live A s a ∧ a ∉ B := by
  unfold Fz at h
  split at h
  · cases h
  · rename_i q
    exact ⟨h, fun z => q (.inl z), fun z => q (.inr (.inl z))⟩
theorem fz_nt {B : List Addr} {H : Hp} {A : List Addr} {s : Sto} {a : Addr} {o : HO} (h : Fz B H A s a = some o) : ∀ ps, o ≠ .tbl ps := fun ps z => by
  have e := (fz_of h).1
  unfold Fz at h
  rw [if_pos (.inr (.inr ⟨ps, by rw [e, z]⟩))] at h
  cases h
theorem fz_to {B : List Addr} {H : Hp} {A : List Addr} {s : Sto} {a : Addr} {o : HO} (h : H a = some o) (n : ¬ Live A s a) (b : a ∉ B) (nt : ∀ ps, o ≠ .tbl ps := by exact fun _ z => nomatch z) : Fz B H A s a = some o := by
  unfold Fz
  rw [if_neg (fun z => z.elim n fun z => z.elim b fun ⟨ps, e⟩ => nt ps (Option.some.inj (h.symm.trans e)))]
  exact h
theorem fz_same {B : List Addr} {H : Hp} {A : List Addr} {s : Sto} : Same (Fz B H A s) H := fun _ _ h => (fz_of h).1
theorem sqL_fz {K : PySem.W.Frag} {B : List Addr} {H : Hp} {A : List Addr} {s : Sto} {a : Addr} {vs : List V} (h : SqL K (Fz B H A s) a vs) : SqL K H a vs := fz_same.seq h
theorem sqT_fz {K : PySem.W.Frag} {B : List Addr} {H : Hp} {A : List Addr} {s : Sto} {a : Addr} {vs : List V} (h : TpF K (Fz B H A s) a vs) : SqT K H a vs := sqT_same fz_same h.q
def ObR (K : PySem.W.Frag) (F : Hp) (A : List Addr) (H : Hp) (a : Addr) : MO → Prop
  | .lst ds => ∃ vs, H a = some (.lst vs) ∧ DatL K F A ds vs
  | .dk ks ds => ∃ kvs : List (Key × V), H a = some (.dK kvs) ∧ kvs.map (·.1) = ks ∧ DatL K F A ds (kvs.map (·.2))
  | .dt ks ds => ∃ kvs : List (List Key × V), H a = some (.dT kvs) ∧ kvs.map (·.1) = ks ∧ DatL K F A ds (kvs.map (·.2))
  | .ins c fs => ∃ C dx fvs, PySem.W.nsIn K mainGlobals c = some (some (.ref C)) ∧ H a = some (.ins C dx fvs) ∧ fvs.map (·.1) = fs.map (·.1) ∧ DatL K F A (fs.map (·.2)) (fvs.map (·.2))
  | .fdk ks ds => ∃ (o : Obj) (kvs : List (Key × V)), H a = some (.frz o (.dK kvs)) ∧ kvs.map (·.1) = ks ∧ DatL K F A ds (kvs.map (·.2))
  | .fdt ks ds => ∃ (o : Obj) (kvs : List (List Key × V)), H a = some (.frz o (.dT kvs)) ∧ kvs.map (·.1) = ks ∧ DatL K F A ds (kvs.map (·.2))
theorem ObR.mono {K : PySem.W.Frag} {F F' : Hp} {A A' : List Addr} {H H' : Hp} {a : Addr} (e : Same F F') (p : ∀ (l : Nat) (a : Addr), A[l]? = some a → A'[l]? = some a) (ha : H' a = H a) : ∀ {mo : MO}, ObR K F A H a mo → ObR K F' A' H' a mo
  | .lst _, ⟨vs, h, d⟩ => ⟨vs, ha.trans h, d.mono e p⟩
  | .dk _ _, ⟨kvs, h, k, d⟩ => ⟨kvs, ha.trans h, k, d.mono e p⟩
  | .dt _ _, ⟨kvs, h, k, d⟩ => ⟨kvs, ha.trans h, k, d.mono e p⟩
  | .ins _ _, ⟨C, dx, fvs, g, h, k, d⟩ => ⟨C, dx, fvs, g, ha.trans h, k, d.mono e p⟩
  | .fdk _ _, ⟨o, kvs, h, k, d⟩ => ⟨o, kvs, ha.trans h, k, d.mono e p⟩
  | .fdt _ _, ⟨o, kvs, h, k, d⟩ => ⟨o, kvs, ha.trans h, k, d.mono e p⟩
theorem ObR.ntup {K : PySem.W.Frag} {F : Hp} {A : List Addr} {H : Hp} {a : Addr} {mo : MO} (h : ObR K F A H a mo) : ∀ vs, H a ≠ Option.some (HO.tup vs) := fun vs z => by
  cases mo with
  | lst _ => obtain ⟨_, h, _⟩ := h; rw [h] at z; cases z
  | dk _ _ => obtain ⟨_, h, _⟩ := h; rw [h] at z; cases z
  | dt _ _ => obtain ⟨_, h, _⟩ := h; rw [h] at z; cases z
  | ins _ _ => obtain ⟨_, _, _, _, h, _⟩ := h; rw [h] at z; cases z
  | fdk _ _ => obtain ⟨_, _, h, _⟩ := h; rw [h] at z; cases z
  | fdt _ _ => obtain ⟨_, _, h, _⟩ := h; rw [h] at z; cases z
def lamNames : List Str := ["words_of", "words_at", "candidates"]
def tabsOf (K : PySem.W.Frag) : List (Addr × Str) := lamNames.filterMap fun x => (PySem.W.tabIn K x).map fun cp => (cp.2, x ++ (".<locals>." : Str) ++ ("<lambda>" : Str))
structure HidO (u : HO) : Prop where
  t : ∀ vs, u ≠ .tup vs
  b : ∀ ps, u ≠ .tbl ps
  x : ∀ f, u ≠ .ext f
theorem tabs_upd {T : List (Addr × Str)} {H : Hp} {a : Addr} {o : HO} (t : LamX.Tabs T H) (n : ∀ u, H a = some u → (∀ ps, u ≠ .tbl ps) ∧ ∀ f, u ≠ .ext f) : LamX.Tabs T (upd H a o) := fun p hp => by
  obtain ⟨ps, h1, h2, h3⟩ := t p hp
  refine ⟨ps, by rw [upd_ne (fun z => (n _ (by rw [← z]; exact h1)).1 ps rfl)]; exact h1, h2, fun pos cv hc => ?_⟩
  obtain ⟨c, e1, e2⟩ := h3 pos cv hc
  exact ⟨c, e1, by rw [upd_ne (fun z => (n _ (by rw [← z]; exact e2)).2 _ rfl)]; exact e2⟩
theorem tabs_new {T : List (Addr × Str)} {H : Hp} {a : Addr} {o : HO} (t : LamX.Tabs T H) (n : H a = none) : LamX.Tabs T (upd H a o) := tabs_upd t fun u e => by rw [n] at e; cases e
theorem obr_hid {K : PySem.W.Frag} {F : Hp} {A : List Addr} {H : Hp} {a : Addr} : ∀ {mo : MO}, ObR K F A H a mo → ∀ u, H a = some u → (∀ ps, u ≠ .tbl ps) ∧ ∀ f, u ≠ .ext f
  | .lst _, ⟨_, h, _⟩, u, e => by rw [h] at e; cases e; exact ⟨(fun _ z => nomatch z), (fun _ z => nomatch z)⟩
  | .dk _ _, ⟨_, h, _⟩, u, e => by rw [h] at e; cases e; exact ⟨(fun _ z => nomatch z), (fun _ z => nomatch z)⟩
  | .dt _ _, ⟨_, h, _⟩, u, e => by rw [h] at e; cases e; exact ⟨(fun _ z => nomatch z), (fun _ z => nomatch z)⟩
  | .ins _ _, ⟨_, _, _, _, h, _⟩, u, e => by rw [h] at e; cases e; exact ⟨(fun _ z => nomatch z), (fun _ z => nomatch z)⟩
  | .fdk _ _, ⟨_, _, h, _⟩, u, e => by rw [h] at e; cases e; exact ⟨(fun _ z => nomatch z), (fun _ z => nomatch z)⟩
  | .fdt _ _, ⟨_, _, h, _⟩, u, e => by rw [h] at e; cases e; exact ⟨(fun _ z => nomatch z), (fun _ z => nomatch z)⟩
structure RepS (K : PySem.W.Frag) (B : List Addr) (H : Hp) (A : List Addr) (s : Sto) : Prop where
  len : A.length = s.length
  inj : A.Nodup
  hd : ∀ a ∈ A, H a ≠ none
  hb : ∀ b ∈ B, H b ≠ none
  ab : ∀ b ∈ B, b ∉ A
  ht : ∀ b ∈ B, ∀ u, H b = some u → HidO u
  hx : ∀ a ∈ A, ∀ ps, H a ≠ some (.tbl ps)
  tb : LamX.Tabs (tabsOf K) H
  ob : ∀ (l : Nat) (mo : MO), s[l]? = some (some mo) → ∃ a, A[l]? = some a ∧ ObR K (Fz B H A s) A H a mo
structure Ext (B : List Addr) (H : Hp) (A : List Addr) (s : Sto) (H' : Hp) (A' : List Addr) (s' : Sto) : Prop where
  same : Same (Fz B H A s) (Fz B H' A' s')
  pre : ∀ (l : Nat) (a : Addr), A[l]? = some a → A'[l]? = some a
  hid : ∀ b ∈ B, H' b = H b
theorem Ext.refl {B : List Addr} {H : Hp} {A : List Addr} {s : Sto} : Ext B H A s H A s := ⟨Same.refl _, fun _ _ h => h, fun _ _ => rfl⟩
theorem Ext.trans {B : List Addr} {H H1 H2 : Hp} {A A1 A2 : List Addr} {s s1 s2 : Sto} (a : Ext B H A s H1 A1 s1) (b : Ext B H1 A1 s1 H2 A2 s2) : Ext B H A s H2 A2 s2 :=
  ⟨a.same.trans b.same, fun l c h => b.pre l c (a.pre l c h), fun c hc => (b.hid c hc).trans (a.hid c hc)⟩
theorem Dat.ext {K : PySem.W.Frag} {B : List Addr} {H H' : Hp} {A A' : List Addr} {s s' : Sto} {d : D} {v : V} (h : Dat K (Fz B H A s) A d v) (e : Ext B H A s H' A' s') : Dat K (Fz B H' A' s') A' d v := h.mono e.same e.pre
theorem DatL.ext {K : PySem.W.Frag} {B : List Addr} {H H' : Hp} {A A' : List Addr} {s s' : Sto} {d : List D} {v : List V} (h : DatL K (Fz B H A s) A d v) (e : Ext B H A s H' A' s') : DatL K (Fz B H' A' s') A' d v := h.mono e.same e.pre
section
variable {K : PySem.W.Frag} {B : List Addr} {H : Hp} {A : List Addr} {s : Sto}
theorem live_none (R : RepS K B H A s) {p : Addr} (hp : H p = none) : ¬ Live A s p := fun ⟨l, mo, h1, h2, _⟩ => R.hd p (List.mem_of_getElem? h2) hp
theorem hid_none (R : RepS K B H A s) {p : Addr} (hp : H p = none) : p ∉ B := fun h => R.hb p h hp
theorem fz_upd_new (R : RepS K B H A s) {p : Addr} {o : HO} (hp : H p = none) (nt : ∀ ps, o ≠ .tbl ps) : Same (Fz B H A s) (Fz B (upd H p o) A s) ∧ Fz B (upd H p o) A s p = some o := by
  refine ⟨fun b u h => ?_, ?_⟩
  · obtain ⟨h1, h2, h3⟩ := fz_of h
    exact fz_to (by rw [upd_ne (ne_of_none h1 hp)]; exact h1) h2 h3 (fz_nt h)
  · exact fz_to upd_same (live_none R hp) (hid_none R hp) nt
theorem RepS.laid (R : RepS K B H A s) {p : Addr} {o : HO} (hp : H p = none) (nt : ∀ ps, o ≠ .tbl ps := by exact fun _ z => nomatch z) : RepS K B (upd H p o) A s ∧ Ext B H A s (upd H p o) A s ∧ Fz B (upd H p o) A s p = some o := by
  obtain ⟨e1, e2⟩ := fz_upd_new (o := o) R hp nt
  have ne : ∀ a, H a ≠ none → a ≠ p := fun a ha z => ha (by rw [z]; exact hp)
  refine ⟨⟨R.len, R.inj, fun a ha => ?_, fun b hb => ?_, R.ab, fun b hb => ?_, fun a ha => by rw [upd_ne (ne a (R.hd a ha))]; exact R.hx a ha, tabs_new R.tb hp, fun l mo h => ?_⟩, ⟨e1, fun _ _ h => h, fun b hb => upd_ne (ne b (R.hb b hb))⟩, e2⟩
  · rw [upd_ne (ne a (R.hd a ha))]; exact R.hd a ha
  · rw [upd_ne (ne b (R.hb b hb))]; exact R.hb b hb
  · rw [upd_ne (ne b (R.hb b hb))]; exact R.ht b hb
  · obtain ⟨a, ha, ho⟩ := R.ob l mo h
    exact ⟨a, ha, ho.mono e1 (fun _ _ h => h) (upd_ne (ne a (R.hd a (List.mem_of_getElem? ha))))⟩
theorem live_app {p : Addr} {mo : MO} {a : Addr} (hl : A.length = s.length) (lv : mo.live = true := by rfl) : Live (A ++ [p]) (s ++ [some mo]) a ↔ Live A s a ∨ a = p := by
  constructor
  · rintro ⟨l, mo', h1, h2, h3⟩
    rcases Nat.lt_or_ge l s.length with hlt | hge
    · rw [List.getElem?_append_left hlt] at h1
      rw [List.getElem?_append_left (by omega)] at h2
      exact .inl ⟨l, mo', h1, h2, h3⟩
    · rw [List.getElem?_append_right (by omega)] at h2
      have e : l - A.length = 0 := by
        rcases Nat.eq_zero_or_pos (l - A.length) with z | z
        · exact z
        · rw [List.getElem?_eq_none (by simp only [List.length_singleton]; omega)] at h2; cases h2
      rw [e] at h2
      exact .inr (Option.some.inj h2).symm
  · rintro (⟨l, mo', h1, h2, h3⟩ | rfl)
    · have hlt := (List.getElem?_eq_some_iff.mp h1).1
      exact ⟨l, mo', by rw [List.getElem?_append_left hlt]; exact h1, by rw [List.getElem?_append_left (by omega)]; exact h2, h3⟩
    · exact ⟨s.length, mo, by simp, by rw [← hl]; simp, lv⟩
theorem pre_app {A : List Addr} {p : Addr} : ∀ (l : Nat) (a : Addr), A[l]? = some a → (A ++ [p])[l]? = some a := fun l a h => by
  have hlt := (List.getElem?_eq_some_iff.mp h).1
  rw [List.getElem?_append_left hlt]; exact h
theorem RepS.born (R : RepS K B H A s) {p : Addr} {o : HO} {mo : MO} (hp : H p = none) (new : ObR K (Fz B H A s) A (upd H p o) p mo) (lv : mo.live = true := by rfl) :
    RepS K B (upd H p o) (A ++ [p]) (s ++ [some mo]) ∧ Ext B H A s (upd H p o) (A ++ [p]) (s ++ [some mo]) := by
  have ne : ∀ a, H a ≠ none → a ≠ p := fun a ha z => ha (by rw [z]; exact hp)
  have e1 : Same (Fz B H A s) (Fz B (upd H p o) (A ++ [p]) (s ++ [some mo])) := fun b u h => by
    obtain ⟨h1, h2, h3⟩ := fz_of h
    have nb : b ≠ p := ne_of_none h1 hp
    exact fz_to (by rw [upd_ne nb]; exact h1) (fun z => ((live_app R.len lv).mp z).elim h2 nb) h3 (fz_nt h)
  have npA : p ∉ A := fun h => R.hd p h hp
  refine ⟨⟨by simp [R.len], ?_, fun a ha => ?_, fun b hb => ?_, fun b hb => ?_, fun b hb => by rw [upd_ne (ne b (R.hb b hb))]; exact R.ht b hb, fun a ha ps z => by
      rcases List.mem_append.mp ha with ha | ha
      · rw [upd_ne (ne a (R.hd a ha))] at z; exact R.hx a ha ps z
      · rw [List.mem_singleton.mp ha] at z; exact (obr_hid new _ z).1 ps rfl, tabs_new R.tb hp, fun l mo' h => ?_⟩, ⟨e1, pre_app, fun b hb => upd_ne (ne b (R.hb b hb))⟩⟩
  · rw [List.nodup_append]
    refine ⟨R.inj, by simp, fun a ha b hb z => ?_⟩
    have : b = p := by simpa using hb
    subst this; subst z
    exact npA ha
  · rcases List.mem_append.mp ha with ha | ha
    · rw [upd_ne (ne a (R.hd a ha))]; exact R.hd a ha
    · have : a = p := by simpa using ha
      subst this; rw [upd_same]; exact fun z => nomatch z
  · rw [upd_ne (ne b (R.hb b hb))]; exact R.hb b hb
  · intro z
    rcases List.mem_append.mp z with z | z
    · exact R.ab b hb z
    · have : b = p := by simpa using z
      subst this; exact R.hb b hb hp
  · rcases Nat.lt_or_ge l s.length with hlt | hge
    · rw [List.getElem?_append_left hlt] at h
      obtain ⟨a, ha, ho⟩ := R.ob l mo' h
      exact ⟨a, pre_app _ _ ha, ho.mono e1 pre_app (upd_ne (ne a (R.hd a (List.mem_of_getElem? ha))))⟩
    · rw [List.getElem?_append_right hge] at h
      have e : l - s.length = 0 := by
        rcases Nat.eq_zero_or_pos (l - s.length) with z | z
        · exact z
        · rw [List.getElem?_eq_none (by simp only [List.length_singleton]; omega)] at h; cases h
      rw [e] at h
      have h' : mo = mo' := by simpa using h
      subst h'
      have : l = s.length := by omega
      subst this
      exact ⟨p, by rw [← R.len]; simp, new.mono e1 pre_app rfl⟩
theorem nodup_get {A : List Addr} (h : A.Nodup) {i j : Nat} {a : Addr} (x : A[i]? = some a) (y : A[j]? = some a) : i = j := by
  obtain ⟨h1, e1⟩ := List.getElem?_eq_some_iff.mp x
  obtain ⟨h2, e2⟩ := List.getElem?_eq_some_iff.mp y
  exact (List.getElem_inj h).mp (e1.trans e2.symm)
theorem live_set (R : RepS K B H A s) {l : Nat} {mo mo' : MO} (h : s[l]? = some (some mo)) {a : Addr} (lv : mo.live = true) (lv' : mo'.live = true) : Live A (s.set l (some mo')) a ↔ Live A s a := by
  have hl := (List.getElem?_eq_some_iff.mp h).1
  constructor
  · rintro ⟨k, m, h1, h2, h3⟩
    by_cases e : l = k
    · subst e; exact ⟨l, mo, h, h2, lv⟩
    · rw [List.getElem?_set_ne e] at h1; exact ⟨k, m, h1, h2, h3⟩
  · rintro ⟨k, m, h1, h2, h3⟩
    by_cases e : l = k
    · subst e; exact ⟨l, mo', List.getElem?_set_self hl, h2, lv'⟩
    · exact ⟨k, m, by rw [List.getElem?_set_ne e]; exact h1, h2, h3⟩
theorem RepS.write (R : RepS K B H A s) {l : Nat} {a : Addr} {o : HO} {mo mo' : MO} (h : s[l]? = some (some mo)) (ha : A[l]? = some a) (new : ObR K (Fz B H A s) A (upd H a o) a mo') (lv : mo.live = true := by rfl) (lv' : mo'.live = true := by rfl) :
    RepS K B (upd H a o) A (s.set l (some mo')) ∧ Ext B H A s (upd H a o) A (s.set l (some mo')) := by
  have hl := (List.getElem?_eq_some_iff.mp h).1
  have haA : a ∈ A := List.mem_of_getElem? ha
  have e1 : Same (Fz B H A s) (Fz B (upd H a o) A (s.set l (some mo'))) := fun b u q => by
    obtain ⟨h1, h2, h3⟩ := fz_of q
    have nb : b ≠ a := fun z => h2 ⟨l, mo, h, by rw [z]; exact ha, lv⟩
    exact fz_to (by rw [upd_ne nb]; exact h1) (fun z => h2 ((live_set R h lv lv').mp z)) h3 (fz_nt q)
  refine ⟨⟨by simp [R.len], R.inj, fun c hc => ?_, fun b hb => ?_, R.ab, fun b hb => by rw [upd_ne (fun z => R.ab b hb (by rw [z]; exact haA))]; exact R.ht b hb, fun c hc ps z => by
      by_cases e : c = a
      · rw [e] at z; exact (obr_hid new _ z).1 ps rfl
      · rw [upd_ne e] at z; exact R.hx c hc ps z, tabs_upd R.tb (by obtain ⟨b, hb, ho⟩ := R.ob l mo h; rw [ha] at hb; cases hb; exact obr_hid ho), fun k m q => ?_⟩, ⟨e1, fun _ _ z => z, fun b hb => upd_ne (fun z => R.ab b hb (by rw [z]; exact haA))⟩⟩
  · by_cases e : c = a
    · subst e; rw [upd_same]; exact fun z => nomatch z
    · rw [upd_ne e]; exact R.hd c hc
  · rw [upd_ne (fun z => R.ab b hb (by rw [z]; exact haA))]; exact R.hb b hb
  · by_cases e : l = k
    · subst e
      rw [List.getElem?_set_self hl] at q
      have q' : mo' = m := by simpa using q
      subst q'
      exact ⟨a, ha, new.mono e1 (fun _ _ z => z) rfl⟩
    · rw [List.getElem?_set_ne e] at q
      obtain ⟨c, hc, ho⟩ := R.ob k m q
      have nc : c ≠ a := fun z => e (nodup_get R.inj ha (by rw [← z]; exact hc))
      exact ⟨c, hc, ho.mono e1 (fun _ _ z => z) (upd_ne nc)⟩
theorem RepS.freeze (R : RepS K B H A s) {l : Nat} {a : Addr} {mo : MO} (h : s[l]? = some (some mo)) (ha : A[l]? = some a) :
    RepS K B H A (s.set l none) ∧ Ext B H A s H A (s.set l none) ∧ (∀ o, H a = some o → Fz B H A (s.set l none) a = some o) := by
  have hl := (List.getElem?_eq_some_iff.mp h).1
  have haA : a ∈ A := List.mem_of_getElem? ha
  have lv : ∀ b, Live A (s.set l none) b → Live A s b ∧ b ≠ a := by
    rintro b ⟨k, m, h1, h2, h3⟩
    by_cases e : l = k
    · subst e; rw [List.getElem?_set_self hl] at h1; cases h1
    · rw [List.getElem?_set_ne e] at h1
      exact ⟨⟨k, m, h1, h2, h3⟩, fun z => e (nodup_get R.inj ha (by rw [← z]; exact h2))⟩
  have e1 : Same (Fz B H A s) (Fz B H A (s.set l none)) := fun b u q => by
    obtain ⟨h1, h2, h3⟩ := fz_of q
    exact fz_to h1 (fun z => h2 (lv b z).1) h3 (fz_nt q)
  refine ⟨⟨by simp [R.len], R.inj, R.hd, R.hb, R.ab, R.ht, R.hx, R.tb, fun k m q => ?_⟩, ⟨e1, fun _ _ z => z, fun _ _ => rfl⟩, fun o q => fz_to q (fun z => (lv a z).2 rfl) (fun z => R.ab a z haA) (by obtain ⟨b, hb, ho⟩ := R.ob l mo h; rw [ha] at hb; cases hb; exact (obr_hid ho o q).1)⟩
  by_cases e : l = k
  · subst e; rw [List.getElem?_set_self hl] at q; cases q
  · rw [List.getElem?_set_ne e] at q
    obtain ⟨c, hc, ho⟩ := R.ob k m q
    exact ⟨c, hc, ho.mono e1 (fun _ _ z => z) rfl⟩
end
theorem RepS.tup_fz {K : PySem.W.Frag} {B : List Addr} {H : Hp} {A : List Addr} {s : Sto} (R : RepS K B H A s) {a : Addr} {vs : List V} (h : H a = some (.tup vs)) : Fz B H A s a = some (.tup vs) :=
  fz_to h (fun ⟨l, mo, h1, h2, _⟩ => by
    obtain ⟨b, hb, ho⟩ := R.ob l mo h1
    rw [h2] at hb
    cases hb
    exact ho.ntup vs h) fun hb => (R.ht a hb _ h).t vs rfl
structure RepE (K : PySem.W.Frag) (F : Hp) (A : List Addr) (env : En) (σ : L2.St) : Prop where
  len : env.length = σ.length
  get : ∀ (i : Nat) (d : D), env[i]? = some (some d) → ∃ v, σ[i]? = some (some v) ∧ Dat K F A d v
theorem RepE.ext {K : PySem.W.Frag} {B : List Addr} {H H' : Hp} {A A' : List Addr} {s s' : Sto} {env : En} {σ : L2.St} (h : RepE K (Fz B H A s) A env σ) (e : Ext B H A s H' A' s') : RepE K (Fz B H' A' s') A' env σ :=
  ⟨h.len, fun i d q => let ⟨v, h1, h2⟩ := h.get i d q; ⟨v, h1, h2.ext e⟩⟩
theorem RepE.set {K : PySem.W.Frag} {F : Hp} {A : List Addr} {env : En} {σ : L2.St} (h : RepE K F A env σ) (i : Nat) {d : D} {v : V} (hd : Dat K F A d v) : RepE K F A (env.set i (some d)) (σ.set i (some v)) := by
  refine ⟨by simp [h.len], fun j e q => ?_⟩
  by_cases hj : i = j
  · subst hj
    have hi : i < env.length := by
      have := (List.getElem?_eq_some_iff.mp q).1
      simpa using this
    rw [List.getElem?_set_self hi] at q
    have q' : d = e := by simpa using q
    subst q'
    exact ⟨v, List.getElem?_set_self (by rw [← h.len]; exact hi), hd⟩
  · rw [List.getElem?_set_ne hj] at q
    obtain ⟨v', h1, h2⟩ := h.get j e q
    exact ⟨v', by rw [List.getElem?_set_ne hj]; exact h1, h2⟩
def wipeE (env : En) : List Nat → En
  | [] => env
  | v :: vs => (wipeE env vs).set v none
theorem wipeE_length (env : En) : ∀ vs : List Nat, (wipeE env vs).length = env.length
  | [] => rfl
  | v :: vs => by unfold wipeE; rw [List.length_set, wipeE_length env vs]
theorem RepE.wipe {K : PySem.W.Frag} {F : Hp} {A : List Addr} {env : En} {σ : L2.St} (h : RepE K F A env σ) : ∀ vs : List Nat, RepE K F A (wipeE env vs) (L2.wipe σ vs)
  | [] => h
  | v :: vs => by
    have ih := RepE.wipe h vs
    refine ⟨by unfold wipeE L2.wipe; simp [ih.len], fun j e q => ?_⟩
    unfold wipeE at q
    by_cases hj : v = j
    · subst hj
      have hi : v < (wipeE env vs).length := by
        have := (List.getElem?_eq_some_iff.mp q).1
        simpa using this
      rw [List.getElem?_set_self hi] at q
      cases q
    · rw [List.getElem?_set_ne hj] at q
      obtain ⟨v', h1, h2⟩ := ih.get j e q
      exact ⟨v', by unfold L2.wipe; rw [List.getElem?_set_ne hj]; exact h1, h2⟩
end Dl
namespace Dl
open PySem PySem.Spec PyProof.Rows L2
abbrev ED := En → Sto → (D → Sto → Prop) → Prop
abbrev TD := En → Sto → (Bool → Sto → Prop) → Prop
abbrev AD := En → Sto → (List D → Sto → Prop) → Prop
structure EndsD where
  nx : En → Sto → Prop
  rt : D → Sto → Prop
  bk : En → Sto → Prop
  ct : En → Sto → Prop
abbrev SD := EndsD → En → Sto → Prop
def Mono {α : Type} (t : En → Sto → (α → Sto → Prop) → Prop) : Prop := ∀ (env : En) (s : Sto) (P P' : α → Sto → Prop), (∀ d s', P d s' → P' d s') → t env s P → t env s P'
structure EndsD.Le (a b : EndsD) : Prop where
  nx : ∀ e s, a.nx e s → b.nx e s
  rt : ∀ d s, a.rt d s → b.rt d s
  bk : ∀ e s, a.bk e s → b.bk e s
  ct : ∀ e s, a.ct e s → b.ct e s
def MonoS (t : SD) : Prop := ∀ (a b : EndsD) (env : En) (s : Sto), a.Le b → t a env s → t b env s
section
variable (K : PySem.W.Frag) (B : List Addr) (H : Hp) (A : List Addr) (s : Sto)
def PostE (Q : VK) : D → Sto → Prop := fun d s' => ∀ (v : V) (H' : Hp) (A' : List Addr), RepS K B H' A' s' → Ext B H A s H' A' s' → Dat K (Fz B H' A' s') A' d v → Q v H'
def PostT (Q : Bool → Hp → Prop) : Bool → Sto → Prop := fun b s' => ∀ (H' : Hp) (A' : List Addr), RepS K B H' A' s' → Ext B H A s H' A' s' → Q b H'
def PostA (Q : List V → Hp → Prop) : List D → Sto → Prop := fun d s' => ∀ (v : List V) (H' : Hp) (A' : List Addr), RepS K B H' A' s' → Ext B H A s H' A' s' → DatL K (Fz B H' A' s') A' d v → Q v H'
def PostN (Q : L2.St → Hp → Prop) : En → Sto → Prop := fun env s' => ∀ (σ : L2.St) (H' : Hp) (A' : List Addr), RepS K B H' A' s' → Ext B H A s H' A' s' → RepE K (Fz B H' A' s') A' env σ → Q σ H'
def PostS (E : Ends) : EndsD := ⟨PostN K B H A s E.nx, PostE K B H A s E.rt, PostN K B H A s E.bk, PostN K B H A s E.ct⟩
end
structure KK where
  K : PySem.W.Frag
  Z : List Addr → Hp → List Addr → Sto → Prop
  zc : ∀ {B : List Addr} {H H' : Hp} {A A' : List Addr} {s s' : Sto}, Z B H A s → Ext B H A s H' A' s' → Z B H' A' s'
instance : Coe KK PySem.W.Frag := ⟨KK.K⟩
def kk0 (K : PySem.W.Frag) : KK := ⟨K, fun _ _ _ _ => True, fun _ _ => trivial⟩
structure Wo (K : KK) (B : List Addr) (H : Hp) (A : List Addr) (s : Sto) (env : En) (σ : L2.St) : Prop where
  rs : RepS K.K B H A s
  re : RepE K.K (Fz B H A s) A env σ
  z : K.Z B H A s
theorem Wo.to {K : KK} {B : List Addr} {H H' : Hp} {A A' : List Addr} {s s' : Sto} {env : En} {σ : L2.St} (w : Wo K B H A s env σ) (r : RepS K.K B H' A' s') (e : Ext B H A s H' A' s') : Wo K B H' A' s' env σ := ⟨r, w.re.ext e, K.zc w.z e⟩
def rdE (K : KK) (t : ED) : TE := fun σ H Q => ∃ (env : En) (s : Sto) (A B : List Addr), Wo K B H A s env σ ∧ t env s (PostE K.K B H A s Q)
def rdT (K : KK) (t : TD) : TT := fun σ H Q => ∃ (env : En) (s : Sto) (A B : List Addr), Wo K B H A s env σ ∧ t env s (PostT K.K B H A s Q)
def rdA (K : KK) (t : AD) : TA := fun σ H Q => ∃ (env : En) (s : Sto) (A B : List Addr), Wo K B H A s env σ ∧ t env s (PostA K.K B H A s Q)
def rdS (K : KK) (t : SD) : TS := fun D σ H => ∃ (env : En) (s : Sto) (A B : List Addr), Wo K B H A s env σ ∧ t (PostS K.K B H A s D) env s
abbrev XD := Str → List (Str × D) → Sto → Prop
abbrev WXD := Str → List (Str × D) → En → Sto → Prop
def XRep (K : PySem.W.Frag) (F : Hp) (A : List Addr) (fs : List (Str × D)) (dx : Option Addr) : Prop :=
  (fs = [] ∧ dx = none) ∨ fs ≠ [] ∧ ∃ d fvs, dx = some d ∧ F d = some (.xd fvs) ∧ fvs.map (·.1) = fs.map (·.1) ∧ DatL K F A (fs.map (·.2)) (fvs.map (·.2))
theorem takesN0 {X : Cx} : L2N.Takes X (fun _ _ _ _ => False) := fun _ _ ⟨_, _, _, _, _, _, _, _, _, _, _, _, _, _, _, _, w⟩ => w.elim
structure DX extends Cx where
  W : WX
  tk : L2N.Takes toCx W
  Z : List Addr → Hp → List Addr → Sto → Prop
  zc : ∀ {B : List Addr} {H H' : Hp} {A A' : List Addr} {s s' : Sto}, Z B H A s → Ext B H A s H' A' s' → Z B H' A' s'
  WD : WXD
  wd : ∀ (x : Str) (fs : List (Str × D)) (env : En) (s' : Sto) (cls : Value) (dx : Option Addr) (σ : L2.St) (B : List Addr) (H' : Hp) (A' : List Addr), Wo ⟨K, Z, zc⟩ B H' A' s' env σ → mg x = some cls → XRep K (Fz B H' A' s') A' fs dx → WD x fs env s' → W cls dx σ H'
instance : CoeOut DX Cx := ⟨DX.toCx⟩
abbrev DX.kk (X : DX) : KK := ⟨X.K, X.Z, X.zc⟩
abbrev dx0 (X : Cx) : DX := { X with W := fun _ _ _ _ => False, tk := takesN0, Z := fun _ _ _ _ => True, zc := fun _ _ => trivial, WD := fun _ _ _ _ => False, wd := fun _ _ _ _ _ _ _ _ _ _ _ _ _ h => h.elim }
structure PD (X : DX) (e : Expr) (t : ED) : Prop where
  pe : PE X e (rdE X.kk t)
  mono : Mono t
structure PTD (X : DX) (e : Expr) (t : TD) : Prop where
  pt : PT X e (rdT X.kk t)
  mono : Mono t
structure PWD (X : DX) (e : Expr) (t : TD) : Prop where
  pw : PW X e (rdT X.kk t)
  mono : Mono t
structure PAD (X : DX) (es : List Expr) (t : AD) : Prop where
  pa : PA X es (rdA X.kk t)
  mono : Mono t
structure PSD (X : DX) (st : Stmt) (t : SD) : Prop where
  ps : PS X st (rdS X.kk t)
  mono : MonoS t
structure PSsD (X : DX) (sts : List Stmt) (t : SD) : Prop where
  pss : PSs X sts (rdS X.kk t)
  mono : MonoS t
theorem pe_imp {X : Cx} {e : Expr} {t t' : TE} (h : PE X e t) (f : ∀ σ H Q, t' σ H Q → t σ H Q) : PE X e t' := ⟨fun pins s σ H Q I q => h.run pins s σ H Q I (f σ H Q q)⟩
theorem pt_imp {X : Cx} {e : Expr} {t t' : TT} (h : PT X e t) (f : ∀ σ H Q, t' σ H Q → t σ H Q) : PT X e t' := ⟨fun pins s σ H Q I q => h.run pins s σ H Q I (f σ H Q q)⟩
theorem pw_imp {X : Cx} {e : Expr} {t t' : TT} (h : PW X e t) (f : ∀ σ H Q, t' σ H Q → t σ H Q) : PW X e t' := ⟨fun wh pins s σ H Q I q => h.run wh pins s σ H Q I (f σ H Q q)⟩
theorem pa_imp {X : Cx} {e : List Expr} {t t' : TA} (h : PA X e t) (f : ∀ σ H Q, t' σ H Q → t σ H Q) : PA X e t' := ⟨fun pos pins s σ H Q I q => h.run pos pins s σ H Q I (f σ H Q q)⟩
theorem ps_imp {X : Cx} {e : Stmt} {t t' : TS} (h : PS X e t) (f : ∀ D σ H, t' D σ H → t D σ H) : PS X e t' := ⟨fun pins s σ H D I q => h.run pins s σ H D I (f D σ H q)⟩
theorem pss_imp {X : Cx} {e : List Stmt} {t t' : TS} (h : PSs X e t) (f : ∀ D σ H, t' D σ H → t D σ H) : PSs X e t' := ⟨fun pins s σ H D I q => h.run pins s σ H D I (f D σ H q)⟩
section
variable {B : List Addr} {H : Hp} {A : List Addr} {s : Sto} {env : En} {σ : L2.St}
theorem rdE_go {K : KK} {t : ED} (m : Mono t) {P : D → Sto → Prop} {Q : VK} (w : Wo K B H A s env σ) (h : t env s P)
    (k : ∀ (d : D) (s' : Sto) (v : V) (H' : Hp) (A' : List Addr), P d s' → Wo K B H' A' s' env σ → Ext B H A s H' A' s' → Dat K (Fz B H' A' s') A' d v → Q v H') : rdE K t σ H Q :=
  ⟨env, s, A, B, w, m _ _ _ _ (fun d s' p v H' A' r e dv => k d s' v H' A' p (w.to r e) e dv) h⟩
theorem rdT_go {K : KK} {t : TD} (m : Mono t) {P : Bool → Sto → Prop} {Q : Bool → Hp → Prop} (w : Wo K B H A s env σ) (h : t env s P)
    (k : ∀ (d : Bool) (s' : Sto) (H' : Hp) (A' : List Addr), P d s' → Wo K B H' A' s' env σ → Ext B H A s H' A' s' → Q d H') : rdT K t σ H Q :=
  ⟨env, s, A, B, w, m _ _ _ _ (fun d s' p H' A' r e => k d s' H' A' p (w.to r e) e) h⟩
theorem rdA_go {K : KK} {t : AD} (m : Mono t) {P : List D → Sto → Prop} {Q : List V → Hp → Prop} (w : Wo K B H A s env σ) (h : t env s P)
    (k : ∀ (d : List D) (s' : Sto) (v : List V) (H' : Hp) (A' : List Addr), P d s' → Wo K B H' A' s' env σ → Ext B H A s H' A' s' → DatL K (Fz B H' A' s') A' d v → Q v H') : rdA K t σ H Q :=
  ⟨env, s, A, B, w, m _ _ _ _ (fun d s' p v H' A' r e dv => k d s' v H' A' p (w.to r e) e dv) h⟩
theorem PostE.from {K : PySem.W.Frag} {H1 : Hp} {A1 : List Addr} {s1 : Sto} {Q : VK} {d : D} {s' : Sto} (e : Ext B H A s H1 A1 s1) (h : PostE K B H A s Q d s') : PostE K B H1 A1 s1 Q d s' := fun v H' A' r x dv => h v H' A' r (e.trans x) dv
theorem PostN.from {K : PySem.W.Frag} {H1 : Hp} {A1 : List Addr} {s1 : Sto} {Q : L2.St → Hp → Prop} {d : En} {s' : Sto} (e : Ext B H A s H1 A1 s1) (h : PostN K B H A s Q d s') : PostN K B H1 A1 s1 Q d s' := fun v H' A' r x dv => h v H' A' r (e.trans x) dv
theorem PostS.from {K : PySem.W.Frag} {H1 : Hp} {A1 : List Addr} {s1 : Sto} {E : Ends} (e : Ext B H A s H1 A1 s1) : (PostS K B H A s E).Le (PostS K B H1 A1 s1 E) :=
  ⟨fun _ _ h => PostN.from e h, fun _ _ h => PostE.from e h, fun _ _ h => PostN.from e h, fun _ _ h => PostN.from e h⟩
end
section
def dVar (i : Nat) : ED := fun env s Q => ∃ d, env[i]? = some (some d) ∧ Q d s
theorem mono_var {i : Nat} : Mono (dVar i) := fun _ _ _ _ f ⟨d, e, q⟩ => ⟨d, e, f _ _ q⟩
theorem pd_var {X : DX} (i : Nat) {e : Expr} (h : PE X e (tVar i)) : PD X e (dVar i) := ⟨pe_imp h fun σ H Q ⟨env, s, A, B, w, d, e, q⟩ => by
  obtain ⟨v, h1, h2⟩ := w.re.get i d e
  exact ⟨v, h1, q v H A w.rs .refl h2⟩, mono_var⟩
def dC (d : D) : ED := fun _ s Q => Q d s
theorem mono_c {d : D} : Mono (dC d) := fun _ _ _ _ f q => f _ _ q
theorem pd_c {X : DX} {e : Expr} {v : V} {d : D} (h : PE X e (tC v)) (hd : ∀ (F : Hp) (A : List Addr), Dat X.K F A d v) : PD X e (dC d) := ⟨pe_imp h fun σ H Q ⟨env, s, A, B, w, q⟩ => q v H A w.rs .refl (hd _ _), mono_c⟩
theorem pd_int {X : DX} {i : Int} {j : Nat} {pos : Pos} : PD X (.Constant (.int i) j pos) (dC (.int i)) := pd_c pe_int fun _ _ => .int i
theorem pd_bl {X : DX} {b : Bool} {j : Nat} {pos : Pos} : PD X (.Constant (.bool b) j pos) (dC (.bl b)) := pd_c pe_bl fun _ _ => .bl b
theorem pd_non {X : DX} {j : Nat} {pos : Pos} : PD X (.Constant .none j pos) (dC .non) := pd_c pe_non fun _ _ => .non
theorem pd_str {X : DX} {x : Str} {j : Nat} {pos : Pos} (hx : x.length ≤ sizeLine := by decide +kernel) : PD X (.Constant (.str x) j pos) (dC (.str x)) := pd_c pe_str fun _ _ => .str x hx
theorem pd_gint {X : DX} {x : Str} {i : Int} {t : Tok} {pos : Pos} (hg : Gl X x) (hm : X.mg x = some (.int i t)) (hd : (x == ("__debug__" : Str)) = false := by decide) : PD X (.Name x pos) (dC (.int i)) := pd_c (v := .int i) (pe_glob hg hm ⟨t, rfl⟩ hd) fun _ _ => .int i
theorem pd_gstr {X : DX} {x z : Str} {t : Tok} {pos : Pos} (hg : Gl X x) (hm : X.mg x = some (.str z t)) (hz : z.length ≤ sizeLine := by decide +kernel) (hd : (x == ("__debug__" : Str)) = false := by decide) : PD X (.Name x pos) (dC (.str z)) := pd_c (v := .str z) (pe_glob hg hm ⟨t, rfl⟩ hd) fun _ _ => .str z hz
abbrev O2 := D → D → Sto → (D → Sto → Prop) → Prop
def MonoO (o : O2) : Prop := ∀ x y s P P', (∀ d s', P d s' → P' d s') → o x y s P → o x y s P'
def OpX (X : Cx) (f : Value → Value → Sem Value) (o : O2) : Prop := ∃ r, OpR X f r ∧ ∀ (x y : D) (s : Sto) (v w : V) (H : Hp) (A B : List Addr) (Q : VK), RepS X.K B H A s → Dat X.K (Fz B H A s) A x v → Dat X.K (Fz B H A s) A y w → o x y s (PostE X.K B H A s Q) → r v w H Q
theorem OpX.or {X : Cx} {f : Value → Value → Sem Value} {o o' : O2} (h : OpX X f o) (h' : OpX X f o') : OpX X f (fun x y s Q => o x y s Q ∨ o' x y s Q) := by
  obtain ⟨r, h1, h2⟩ := h
  obtain ⟨r', h1', h2'⟩ := h'
  exact ⟨_, h1.or h1', fun x y s v w H A B Q R dv dw q => q.elim (fun q => .inl (h2 x y s v w H A B Q R dv dw q)) fun q => .inr (h2' x y s v w H A B Q R dv dw q)⟩
theorem OpX.imp {X : Cx} {f : Value → Value → Sem Value} {o o' : O2} (h : OpX X f o) (i : ∀ x y s Q, o' x y s Q → o x y s Q) : OpX X f o' := by
  obtain ⟨r, h1, h2⟩ := h
  exact ⟨r, h1, fun x y s v w H A B Q R dv dw q => h2 x y s v w H A B Q R dv dw (i _ _ _ _ q)⟩
def oF (f : Sto → D → D → Option D) : O2 := fun x y s Q => ∃ z, f s x y = some z ∧ Q z s
theorem mono_oF {f : Sto → D → D → Option D} : MonoO (oF f) := fun _ _ _ _ _ g ⟨z, e, q⟩ => ⟨z, e, g _ _ q⟩
def dBin (o : O2) (ta tb : ED) : ED := fun env s Q => ta env s fun x s1 => tb env s1 fun y s2 => o x y s2 Q
theorem mono_bin {o : O2} {ta tb : ED} (mo : MonoO o) (ma : Mono ta) (mb : Mono tb) : Mono (dBin o ta tb) := fun env s P P' f h => ma _ _ _ _ (fun x s1 h1 => mb _ _ _ _ (fun y s2 h2 => mo _ _ _ _ _ f h2) h1) h
variable {a b c : Expr} {ta tb tc : ED} {pos : Pos}
theorem bin_rd {X : DX} {o : O2} {r : R2} (ma : Mono ta) (mb : Mono tb) (mo : MonoO o) (l : ∀ (x y : D) (s : Sto) (v w : V) (H : Hp) (A B : List Addr) (Q : VK), RepS X.K B H A s → Dat X.K (Fz B H A s) A x v → Dat X.K (Fz B H A s) A y w → o x y s (PostE X.K B H A s Q) → r v w H Q)
    (σ : L2.St) (H : Hp) (Q : VK) (h : rdE X.kk (dBin o ta tb) σ H Q) : tOp r (rdE X.kk ta) (rdE X.kk tb) σ H Q := by
  obtain ⟨env, s, A, B, w, h⟩ := h
  refine rdE_go ma w h fun x s1 v H1 A1 h1 w1 e1 dv => ?_
  refine rdE_go mb w1 h1 fun y s2 u H2 A2 h2 w2 e2 du => ?_
  exact l x y s2 v u H2 A2 B Q w2.rs (dv.ext e2) du (mo _ _ _ _ _ (fun d s' p => PostE.from (e1.trans e2) p) h2)
theorem pd_bin {X : DX} {op : Operator} {o : O2} (ho : OpX X (binaryOp op) o) (mo : MonoO o) (ha : PD X a ta) (hb : PD X b tb) : PD X (.BinOp a op b pos) (dBin o ta tb) := by
  obtain ⟨r, h1, h2⟩ := ho
  exact ⟨pe_imp (pe_op h1 ha.pe hb.pe) (bin_rd ha.mono hb.mono mo h2), mono_bin mo ha.mono hb.mono⟩
theorem pd_cmp {X : DX} {op : CmpOp} {o : O2} (ho : OpX X (compareOp op) o) (mo : MonoO o) (ha : PD X a ta) (hb : PD X b tb) (hm : behindInMarks op b = false) : PD X (.Compare a [op] [b] pos) (dBin o ta tb) := by
  obtain ⟨r, h1, h2⟩ := ho
  exact ⟨pe_imp (pe_cmpR h1 ha.pe hb.pe hm) (bin_rd ha.mono hb.mono mo h2), mono_bin mo ha.mono hb.mono⟩
def dTest (t : ED) : TD := fun env s Q => t env s fun x s1 => ∃ k, x = .bl k ∧ Q k s1
theorem mono_test {t : ED} (m : Mono t) : Mono (dTest t) := fun _ _ _ _ f h => m _ _ _ _ (fun _ _ ⟨k, e, q⟩ => ⟨k, e, f _ _ q⟩) h
theorem test_rd {X : DX} {t : ED} (m : Mono t) (σ : L2.St) (H : Hp) (Q : Bool → Hp → Prop) (h : rdT X.kk (dTest t) σ H Q) : rdE X.kk t σ H fun x H' => ∃ k, x = .bl k ∧ Q k H' := by
  obtain ⟨env, s, A, B, w, h⟩ := h
  refine rdE_go m w h fun x s1 v H1 A1 ⟨k, e, q⟩ w1 e1 dv => ?_
  subst e
  cases dv
  exact ⟨k, rfl, q H1 A1 w1.rs e1⟩
theorem ptd_cmp {X : DX} {op : CmpOp} {o : O2} (ho : OpX X (compareOp op) o) (mo : MonoO o) (ha : PD X a ta) (hb : PD X b tb) (hm : behindInMarks op b = false) : PTD X (.Compare a [op] [b] pos) (dTest (dBin o ta tb)) := by
  obtain ⟨r, h1, h2⟩ := ho
  have mb := mono_bin mo ha.mono hb.mono
  refine ⟨pt_imp (pt_cmpR h1 ha.pe hb.pe hm) fun σ H Q h => ?_, mono_test mb⟩
  show tOp r (rdE X.kk ta) (rdE X.kk tb) σ H (fun x H' => ∃ k, x = .bl k ∧ Q k H')
  exact bin_rd ha.mono hb.mono mo h2 σ H _ (test_rd mb σ H Q h)
theorem ptd_val {X : DX} {e : Expr} {t : ED} (h : PD X e t) (he : ∀ whole, isTrue e X.env whole = (do let v ← whole; standAt e.pos; holding [v] (truthy v)) := by intro _; rfl) : PTD X e (dTest t) :=
  ⟨pt_imp (pt_val h.pe he) fun σ H Q q => test_rd h.mono σ H Q q, mono_test h.mono⟩
def dChain (o o' : O2) (ta tb tc : ED) : ED := fun env s Q => ta env s fun x s1 => tb env s1 fun y s2 => o x y s2 fun z s3 => ∃ k, z = .bl k ∧ if k = true then tc env s3 fun u s4 => o' y u s4 Q else Q (.bl false) s3
theorem mono_chain {o o' : O2} (mo : MonoO o) (mo' : MonoO o') (ma : Mono ta) (mb : Mono tb) (mc : Mono tc) : Mono (dChain o o' ta tb tc) := fun env s P P' f h => ma _ _ _ _ (fun x s1 h1 => mb _ _ _ _ (fun y s2 h2 => mo _ _ _ _ _ (fun z s3 ⟨k, e, q⟩ => ⟨k, e, by
  cases k with
  | true => rw [if_pos rfl] at q ⊢; exact mc _ _ _ _ (fun u s4 h4 => mo' _ _ _ _ _ f h4) q
  | false => rw [if_neg Bool.false_ne_true] at q ⊢; exact f _ _ q⟩) h2) h1) h
theorem chain_rd {X : DX} {o o' : O2} {r r' : R2} (ma : Mono ta) (mb : Mono tb) (mc : Mono tc) (mo : MonoO o) (mo' : MonoO o') (l : ∀ (x y : D) (s : Sto) (v w : V) (H : Hp) (A B : List Addr) (Q : VK), RepS X.K B H A s → Dat X.K (Fz B H A s) A x v → Dat X.K (Fz B H A s) A y w → o x y s (PostE X.K B H A s Q) → r v w H Q)
    (l' : ∀ (x y : D) (s : Sto) (v w : V) (H : Hp) (A B : List Addr) (Q : VK), RepS X.K B H A s → Dat X.K (Fz B H A s) A x v → Dat X.K (Fz B H A s) A y w → o' x y s (PostE X.K B H A s Q) → r' v w H Q)
    (σ : L2.St) (H : Hp) (Q : VK) (h : rdE X.kk (dChain o o' ta tb tc) σ H Q) : tChain r r' (rdE X.kk ta) (rdE X.kk tb) (rdE X.kk tc) σ H Q := by
  obtain ⟨env, s, A, B, w, h⟩ := h
  refine rdE_go ma w h fun x s1 v H1 A1 h1 w1 e1 dv => ?_
  refine rdE_go mb w1 h1 fun y s2 u H2 A2 h2 w2 e2 du => ?_
  refine l x y s2 v u H2 A2 B _ w2.rs (dv.ext e2) du (mo _ _ _ _ _ (fun d s3 p z H3 A3 r3 e3 dz => ?_) h2)
  obtain ⟨k, ek, q⟩ := p
  subst ek
  cases dz
  refine ⟨k, rfl, ?_⟩
  have w3 := w2.to r3 e3
  cases k with
  | true =>
    rw [if_pos rfl] at q ⊢
    refine rdE_go mc w3 q fun t s4 g H4 A4 h4 w4 e4 dt => ?_
    exact l' y t s4 u g H4 A4 B Q w4.rs ((du.ext e3).ext e4) dt (mo' _ _ _ _ _ (fun d s' p => PostE.from ((e1.trans e2).trans (e3.trans e4)) p) h4)
  | false =>
    rw [if_neg Bool.false_ne_true] at q ⊢
    exact q _ _ _ w3.rs ((e1.trans e2).trans e3) (.bl false)
theorem pd_chain {X : DX} {op op' : CmpOp} {o o' : O2} (ho : OpX X (compareOp op) o) (mo : MonoO o) (ho' : OpX X (compareOp op') o') (mo' : MonoO o') (ha : PD X a ta) (hb : PD X b tb) (hc : PD X c tc)
    (hm : lastMarks [op, op'] [b, c] = false := by with_unfolding_all rfl) : PD X (.Compare a [op, op'] [b, c] pos) (dChain o o' ta tb tc) := by
  obtain ⟨r, h1, h2⟩ := ho
  obtain ⟨r', h1', h2'⟩ := ho'
  exact ⟨pe_imp (pe_chain h1 h1' ha.pe hb.pe hc.pe hm) (chain_rd ha.mono hb.mono hc.mono mo mo' h2 h2'), mono_chain mo mo' ha.mono hb.mono hc.mono⟩
variable {rest : List Expr} {uA uB : TD}
def dAnd (t u : TD) : TD := fun env s Q => t env s fun k s1 => if k = true then u env s1 Q else Q false s1
def dOr (t u : TD) : TD := fun env s Q => t env s fun k s1 => if k = true then Q true s1 else u env s1 Q
def dNot (t : TD) : TD := fun env s Q => t env s fun k s1 => Q (!k) s1
theorem mono_and {t u : TD} (mt : Mono t) (mu : Mono u) : Mono (dAnd t u) := fun env s P P' f h => mt _ _ _ _ (fun k s1 q => by
  cases k with
  | true => rw [if_pos rfl] at q ⊢; exact mu _ _ _ _ f q
  | false => rw [if_neg Bool.false_ne_true] at q ⊢; exact f _ _ q) h
theorem mono_or {t u : TD} (mt : Mono t) (mu : Mono u) : Mono (dOr t u) := fun env s P P' f h => mt _ _ _ _ (fun k s1 q => by
  cases k with
  | false => rw [if_neg Bool.false_ne_true] at q ⊢; exact mu _ _ _ _ f q
  | true => rw [if_pos rfl] at q ⊢; exact f _ _ q) h
theorem mono_not {t : TD} (mt : Mono t) : Mono (dNot t) := fun env s P P' f h => mt _ _ _ _ (fun k s1 q => f _ _ q) h
theorem and_rd {X : DX} {t u : TD} (mt : Mono t) (mu : Mono u) (σ : L2.St) (H : Hp) (Q : Bool → Hp → Prop) (h : rdT X.kk (dAnd t u) σ H Q) : tAnd (rdT X.kk t) (rdT X.kk u) σ H Q := by
  obtain ⟨env, s, A, B, w, h⟩ := h
  refine rdT_go mt w h fun k s1 H1 A1 h1 w1 e1 => ?_
  cases k with
  | true =>
    rw [if_pos rfl] at h1 ⊢
    exact rdT_go mu w1 h1 fun k s2 H2 A2 h2 w2 e2 => h2 H2 A2 w2.rs (e1.trans e2)
  | false => rw [if_neg Bool.false_ne_true] at h1 ⊢; exact h1 H1 A1 w1.rs e1
theorem or_rd {X : DX} {t u : TD} (mt : Mono t) (mu : Mono u) (σ : L2.St) (H : Hp) (Q : Bool → Hp → Prop) (h : rdT X.kk (dOr t u) σ H Q) : tOr (rdT X.kk t) (rdT X.kk u) σ H Q := by
  obtain ⟨env, s, A, B, w, h⟩ := h
  refine rdT_go mt w h fun k s1 H1 A1 h1 w1 e1 => ?_
  cases k with
  | false =>
    rw [if_neg Bool.false_ne_true] at h1 ⊢
    exact rdT_go mu w1 h1 fun k s2 H2 A2 h2 w2 e2 => h2 H2 A2 w2.rs (e1.trans e2)
  | true => rw [if_pos rfl] at h1 ⊢; exact h1 H1 A1 w1.rs e1
theorem pwd_and1 {X : DX} (ha : PTD X a uA) : PWD X (.BoolOp .And [a] pos) uA := ⟨pw_and1 ha.pt, ha.mono⟩
theorem pwd_or1 {X : DX} (ha : PTD X a uA) : PWD X (.BoolOp .Or [a] pos) uA := ⟨pw_or1 ha.pt, ha.mono⟩
theorem pwd_and {X : DX} (ha : PTD X a uA) (hb : PWD X (.BoolOp .And (b :: rest) pos) uB) : PWD X (.BoolOp .And (a :: b :: rest) pos) (dAnd uA uB) :=
  ⟨pw_imp (pw_and ha.pt hb.pw) (and_rd ha.mono hb.mono), mono_and ha.mono hb.mono⟩
theorem pwd_or {X : DX} (ha : PTD X a uA) (hb : PWD X (.BoolOp .Or (b :: rest) pos) uB) : PWD X (.BoolOp .Or (a :: b :: rest) pos) (dOr uA uB) :=
  ⟨pw_imp (pw_or ha.pt hb.pw) (or_rd ha.mono hb.mono), mono_or ha.mono hb.mono⟩
theorem ptd_w {X : DX} {e : Expr} {t : TD} (h : PWD X e t) : PTD X e t := ⟨h.pw.pt, h.mono⟩
theorem ptd_not {X : DX} (ha : PTD X a uA) : PTD X (.UnaryOp .Not a pos) (dNot uA) :=
  ⟨pt_imp (pt_not ha.pt) fun σ H Q ⟨env, s, A, B, w, h⟩ => rdT_go ha.mono w h fun k s1 H1 A1 h1 w1 e1 => h1 H1 A1 w1.rs e1, mono_not ha.mono⟩
def dAndV (ta tb : ED) : ED := fun env s Q => ta env s fun x s1 => ∃ k, x = .bl k ∧ if k = true then tb env s1 Q else Q (.bl false) s1
def dNotV (ta : ED) : ED := fun env s Q => ta env s fun x s1 => ∃ k, x = .bl k ∧ Q (.bl (!k)) s1
theorem mono_andV (ma : Mono ta) (mb : Mono tb) : Mono (dAndV ta tb) := fun env s P P' f h => ma _ _ _ _ (fun k s1 ⟨j, e, q⟩ => ⟨j, e, by
  cases j with
  | true => rw [if_pos rfl] at q ⊢; exact mb _ _ _ _ f q
  | false => rw [if_neg Bool.false_ne_true] at q ⊢; exact f _ _ q⟩) h
theorem mono_notV (ma : Mono ta) : Mono (dNotV ta) := fun env s P P' f h => ma _ _ _ _ (fun k s1 ⟨j, e, q⟩ => ⟨j, e, f _ _ q⟩) h
theorem pd_and {X : DX} (ha : PD X a ta) (hb : PD X (.BoolOp .And (b :: rest) pos) tb) : PD X (.BoolOp .And (a :: b :: rest) pos) (dAndV ta tb) :=
  ⟨pe_imp (pe_and ha.pe hb.pe) fun σ H Q ⟨env, s, A, B, w, h⟩ => rdE_go ha.mono w h fun x s1 v H1 A1 ⟨k, ek, q⟩ w1 e1 dv => by
    subst ek
    cases dv
    refine ⟨k, rfl, ?_⟩
    cases k with
    | true => rw [if_pos rfl] at q ⊢; exact rdE_go hb.mono w1 q fun x s2 v H2 A2 h2 w2 e2 dv => h2 v H2 A2 w2.rs (e1.trans e2) dv
    | false => rw [if_neg Bool.false_ne_true] at q ⊢; exact q _ H1 A1 w1.rs e1 (.bl false), mono_andV ha.mono hb.mono⟩
theorem pd_one {X : DX} {op : PySem.BoolOp} (ha : PD X a ta) : PD X (.BoolOp op [a] pos) ta := ⟨pe_one ha.pe, ha.mono⟩
theorem pd_not {X : DX} (ha : PD X a ta) : PD X (.UnaryOp .Not a pos) (dNotV ta) :=
  ⟨pe_imp (pe_not ha.pe) fun σ H Q ⟨env, s, A, B, w, h⟩ => rdE_go ha.mono w h fun x s1 v H1 A1 ⟨k, ek, q⟩ w1 e1 dv => by
    subst ek
    cases dv
    exact ⟨k, rfl, q _ H1 A1 w1.rs e1 (.bl _)⟩, mono_notV ha.mono⟩
def dIf (t : TD) (ta tb : ED) : ED := fun env s Q => t env s fun k s1 => if k = true then ta env s1 Q else tb env s1 Q
theorem mono_if {t : TD} (mt : Mono t) (ma : Mono ta) (mb : Mono tb) : Mono (dIf t ta tb) := fun env s P P' f h => mt _ _ _ _ (fun k s1 q => by
  cases k with
  | true => rw [if_pos rfl] at q ⊢; exact ma _ _ _ _ f q
  | false => rw [if_neg Bool.false_ne_true] at q ⊢; exact mb _ _ _ _ f q) h
theorem pd_if {X : DX} {t : TD} (hc : PTD X c t) (ha : PD X a ta) (hb : PD X b tb) : PD X (.IfExp c a b pos) (dIf t ta tb) :=
  ⟨pe_imp (pe_ifExp hc.pt ha.pe hb.pe) fun σ H Q ⟨env, s, A, B, w, h⟩ => rdT_go hc.mono w h fun k s1 H1 A1 q w1 e1 => by
    cases k with
    | true => rw [if_pos rfl] at q ⊢; exact rdE_go ha.mono w1 q fun x s2 v H2 A2 h2 w2 e2 dv => h2 v H2 A2 w2.rs (e1.trans e2) dv
    | false => rw [if_neg Bool.false_ne_true] at q ⊢; exact rdE_go hb.mono w1 q fun x s2 v H2 A2 h2 w2 e2 dv => h2 v H2 A2 w2.rs (e1.trans e2) dv, mono_if hc.mono ha.mono hb.mono⟩
def dUn (f : Sto → D → Option D) (ta : ED) : ED := fun env s Q => ta env s fun x s1 => ∃ z, f s1 x = some z ∧ Q z s1
theorem mono_un {f : Sto → D → Option D} (ma : Mono ta) : Mono (dUn f ta) := fun _ _ _ _ g h => ma _ _ _ _ (fun _ _ ⟨z, e, q⟩ => ⟨z, e, g _ _ q⟩) h
def dNil : AD := fun _ s Q => Q [] s
def dCons (ta : ED) (tr : AD) : AD := fun env s Q => ta env s fun x s1 => tr env s1 fun xs s2 => Q (x :: xs) s2
theorem mono_nil : Mono dNil := fun _ _ _ _ f h => f _ _ h
theorem mono_cons {tr : AD} (ma : Mono ta) (mr : Mono tr) : Mono (dCons ta tr) := fun _ _ _ _ f h => ma _ _ _ _ (fun _ _ h1 => mr _ _ _ _ (fun _ _ h2 => f _ _ h2) h1) h
theorem pad_nil {X : DX} : PAD X [] dNil := ⟨pa_imp pa_nil fun σ H Q ⟨env, s, A, B, w, q⟩ => q _ _ _ w.rs .refl .nil, mono_nil⟩
theorem pad_cons {X : DX} {es : List Expr} {tr : AD} (ha : PD X a ta) (hr : PAD X es tr) (hs : starEach (a :: es) X.env = (false, eval a X.env) :: starEach es X.env := by rfl) : PAD X (a :: es) (dCons ta tr) :=
  ⟨pa_imp (pa_cons ha.pe hr.pa hs) fun σ H Q ⟨env, s, A, B, w, h⟩ => rdE_go ha.mono w h fun x s1 v H1 A1 h1 w1 e1 dv => rdA_go hr.mono w1 h1 fun xs s2 vs H2 A2 h2 w2 e2 dvs => h2 _ H2 A2 w2.rs (e1.trans e2) (.cons (dv.ext e2) dvs), mono_cons ha.mono hr.mono⟩
variable {es : List Expr} {t : AD}
def dTup (t : AD) : ED := fun env s Q => t env s fun xs s1 => xs.length ≤ sizeLine ∧ Q (.tup xs) s1
theorem mono_tup (m : Mono t) : Mono (dTup t) := fun _ _ _ _ f h => m _ _ _ _ (fun _ _ ⟨l, q⟩ => ⟨l, f _ _ q⟩) h
theorem pd_tup {X : DX} {x1} (h : PAD X es t) : PD X (.Tuple es x1 pos) (dTup t) :=
  ⟨pe_imp (pe_tup h.pa) fun σ H Q ⟨env, s, A, B, w, q⟩ => rdA_go h.mono w q fun xs s1 vs H1 A1 ⟨hl, q1⟩ w1 e1 dvs => ⟨by rw [dvs.length]; exact hl, fun p hp => by
    obtain ⟨r2, e2, f2⟩ := w1.rs.laid (o := .tup vs) hp
    exact q1 _ _ _ r2 (e1.trans e2) (.tup (.of f2) (dvs.ext e2))⟩, mono_tup h.mono⟩
def dLst (t : AD) : ED := fun env s Q => t env s fun xs s1 => xs.length ≤ sizeLine ∧ Q (.lst xs) s1
theorem mono_lst (m : Mono t) : Mono (dLst t) := fun _ _ _ _ f h => m _ _ _ _ (fun _ _ ⟨l, q⟩ => ⟨l, f _ _ q⟩) h
theorem pd_lst {X : DX} (h : PAD X es t) : PD X (.List es pos) (dLst t) :=
  ⟨pe_imp (pe_lst h.pa) fun σ H Q ⟨env, s, A, B, w, q⟩ => rdA_go h.mono w q fun xs s1 vs H1 A1 ⟨hl, q1⟩ w1 e1 dvs => ⟨by rw [dvs.length]; exact hl, fun p hp => by
    obtain ⟨r2, e2, f2⟩ := w1.rs.laid (o := .lst vs) hp
    exact q1 _ _ _ r2 (e1.trans e2) (.lst f2 (dvs.ext e2))⟩, mono_lst h.mono⟩
def dNew (t : AD) : ED := fun env s Q => t env s fun xs s1 => xs.length ≤ sizeLine ∧ Q (.ref s1.length) (s1 ++ [some (.lst xs)])
theorem mono_new (m : Mono t) : Mono (dNew t) := fun _ _ _ _ f h => m _ _ _ _ (fun _ _ ⟨l, q⟩ => ⟨l, f _ _ q⟩) h
theorem pd_new {X : DX} (h : PAD X es t) : PD X (.List es pos) (dNew t) :=
  ⟨pe_imp (pe_lst h.pa) fun σ H Q ⟨env, s, A, B, w, q⟩ => rdA_go h.mono w q fun xs s1 vs H1 A1 ⟨hl, q1⟩ w1 e1 dvs => ⟨by rw [dvs.length]; exact hl, fun p hp => by
    obtain ⟨r2, e2⟩ := w1.rs.born (o := .lst vs) (mo := .lst xs) hp ⟨vs, upd_same, dvs⟩
    exact q1 _ _ _ r2 (e1.trans e2) (.ref (by rw [← w1.rs.len]; simp))⟩, mono_new h.mono⟩
def dFrz (ta : ED) : ED := fun env s Q => ta env s fun x s1 => ∃ l xs, x = .ref l ∧ s1[l]? = some (some (.lst xs)) ∧ Q (.lst xs) (s1.set l none)
theorem mono_frz (ma : Mono ta) : Mono (dFrz ta) := fun _ _ _ _ f h => ma _ _ _ _ (fun _ _ ⟨l, xs, e, g, q⟩ => ⟨l, xs, e, g, f _ _ q⟩) h
theorem pd_frz {X : DX} (ha : PD X a ta) : PD X a (dFrz ta) :=
  ⟨pe_imp ha.pe fun σ H Q ⟨env, s, A, B, w, h⟩ => rdE_go ha.mono w h fun x s1 v H1 A1 ⟨l, xs, ex, hl, q⟩ w1 e1 dv => by
    subst ex
    cases dv with
    | ref hA =>
      obtain ⟨a', ha', vs, hv, dvs⟩ := w1.rs.ob l _ hl
      rw [hA] at ha'; cases ha'
      obtain ⟨r2, e2, f2⟩ := w1.rs.freeze hl hA
      exact q _ _ _ r2 (e1.trans e2) (.lst (f2 _ hv) (dvs.ext e2)), mono_frz ha.mono⟩
end
end Dl
namespace Dl
open PySem PySem.Spec PyProof.Rows L2
abbrev GD := D → En → Sto → (En → Sto → Prop) → Prop
def rdG (K : KK) (t : GD) : TG := fun v σ H Q => ∃ (env : En) (s : Sto) (A B : List Addr) (d : D), Wo K B H A s env σ ∧ Dat K (Fz B H A s) A d v ∧ t d env s (PostN K B H A s Q)
def MonoG (t : GD) : Prop := ∀ d env s P P', (∀ e s', P e s' → P' e s') → t d env s P → t d env s P'
structure PGD (X : DX) (e : Expr) (t : GD) : Prop where
  pg : PG X e (rdG X.kk t)
  mono : MonoG t
theorem pg_imp {X : Cx} {e : Expr} {t t' : TG} (h : PG X e t) (f : ∀ v σ H Q, t' v σ H Q → t v σ H Q) : PG X e t' := ⟨fun pins s σ H v u Q I r q => h.run pins s σ H v u Q I r (f v σ H Q q)⟩
section
variable {pos : Pos}
def gN (i : Nat) : GD := fun d env s Q => Q (env.set i (some d)) s
theorem mono_gN {i : Nat} : MonoG (gN i) := fun _ _ _ _ _ f h => f _ _ h
theorem pgd_name {X : DX} {i : Nat} {e : Expr} (h : PG X e (gName i)) : PGD X e (gN i) := ⟨pg_imp h fun v σ H Q ⟨env, s, A, B, d, w, dv, q⟩ => q _ H A w.rs .refl (w.re.set i dv), mono_gN⟩
def setE (env : En) : List Nat → List D → En
  | i :: is, d :: ds => setE (env.set i (some d)) is ds
  | _, _ => env
def setS (σ : L2.St) : List Nat → List V → L2.St
  | i :: is, v :: vs => setS (σ.set i (some v)) is vs
  | _, _ => σ
theorem RepE.sets {K : PySem.W.Frag} {F : Hp} {A : List Addr} : ∀ {is : List Nat} {ds : List D} {vs : List V} {env : En} {σ : L2.St}, RepE K F A env σ → DatL K F A ds vs → RepE K F A (setE env is ds) (setS σ is vs)
  | [], _, _, _, _, h, _ => by unfold setE setS; exact h
  | _ :: _, [], _, _, _, h, d => by cases d; unfold setE setS; exact h
  | i :: is, e :: ds, _, _, _, h, d => by
    cases d with
    | cons d1 d2 =>
      unfold setE setS
      exact RepE.sets (h.set i d1) d2
def gNames (is : List Nat) : TGs := fun vs σ H Q => vs.length = is.length ∧ Q (setS σ is vs) H
theorem pgs_imp {X : Cx} {es : List Expr} {t t' : TGs} (h : PGs X es t) (f : ∀ v σ H Q, t' v σ H Q → t v σ H Q) : PGs X es t' := ⟨fun pins s σ H v u Q I r q => h.run pins s σ H v u Q I r (f v σ H Q q)⟩
theorem pgs_n0 {X : Cx} : PGs X [] (gNames []) := pgs_imp pgs_nil fun vs σ H Q ⟨hl, q⟩ => by
  have e : vs = [] := List.eq_nil_of_length_eq_zero hl
  subst e
  exact ⟨rfl, q⟩
theorem pgs_n1 {X : Cx} {i : Nat} {is : List Nat} {e : Expr} {es : List Expr} (h1 : PG X e (gName i)) (h2 : PGs X es (gNames is)) (hs : (assignEach (e :: es) X.env).map (·.2) = assign e X.env :: (assignEach es X.env).map (·.2) := by rfl) :
    PGs X (e :: es) (gNames (i :: is)) := pgs_imp (pgs_cons h1 h2 hs) fun vs σ H Q ⟨hl, q⟩ => by
  cases vs with
  | nil => simp at hl
  | cons v vs => exact ⟨v, vs, rfl, by simpa using hl, q⟩
def gTs (is : List Nat) : GD := fun d env s Q => ∃ ds, d = .tup ds ∧ ds.length = is.length ∧ Q (setE env is ds) s
theorem mono_gTs {is : List Nat} : MonoG (gTs is) := fun _ _ _ _ _ f ⟨ds, e, l, q⟩ => ⟨ds, e, l, f _ _ q⟩
theorem pgd_tup {X : DX} {es : List Expr} {k : Nat} {is : List Nat} (hc : X.calm = true) (h : PGs X es (gNames is)) (hn : (assignEach es X.env).length = is.length := by rfl) (hst : (assignEach es X.env).findIdx? (·.1) = none := by rfl) : PGD X (.Tuple es k pos) (gTs is) :=
  ⟨pg_imp (pg_tup hc h hn hst) fun v σ H Q ⟨env, s, A, B, d, w, dv, ds, ed, hl, q⟩ => by
    subst ed
    cases dv with
    | tup hs hd => exact ⟨_, _, rfl, sqT_fz hs, by rw [hd.length]; exact hl, by rw [hd.length]; exact hl, q _ H A w.rs .refl (w.re.sets hd)⟩, mono_gTs⟩
def gIx (to ti : ED) : GD := fun d env s Q => to env s fun o s1 => ti env s1 fun i s2 => ∃ l xs k j, o = .ref l ∧ i = .int k ∧ s2[l]? = some (some (.lst xs)) ∧ ixN xs.length k = some j ∧ Q env (s2.set l (some (.lst (xs.set j d))))
theorem mono_gIx {to ti : ED} (mo : Mono to) (mi : Mono ti) : MonoG (gIx to ti) := fun _ _ _ _ _ f h => mo _ _ _ _ (fun _ _ h1 => mi _ _ _ _ (fun _ _ ⟨l, xs, k, j, e1, e2, e3, e4, q⟩ => ⟨l, xs, k, j, e1, e2, e3, e4, f _ _ q⟩) h1) h
theorem pgd_ix {X : DX} {o i : Expr} {to ti : ED} (ho : PD X o to) (hi : PD X i ti)
    (ha : ∀ v, assign (.Subscript o i pos) X.env v = (do
      let ov ← holding [v] (eval o X.env)
      let iv ← holding [v, ov] (eval i X.env)
      standAt pos
      holding [v, ov, iv] (setItem ov iv v)
      release [v, ov, iv] []) := by intro _; rfl) : PGD X (.Subscript o i pos) (gIx to ti) :=
  ⟨pg_imp (pg_sub ho.pe hi.pe set_list ha) fun v σ H Q ⟨env, s, A, B, d, w, dv, h⟩ => by
    refine rdE_go ho.mono w h fun x s1 vo H1 A1 h1 w1 e1 dvo => ?_
    refine rdE_go hi.mono w1 h1 fun y s2 vi H2 A2 ⟨l, xs, k, j, ex, ey, hl, hj, q⟩ w2 e2 dvi => ?_
    subst ex ey
    cases dvi
    cases dvo with
    | ref hA =>
      obtain ⟨a', ha', vs, hv, dvs⟩ := w2.rs.ob l _ hl
      rw [e2.pre _ _ hA] at ha'; cases ha'
      have dv2 := (dv.ext e1).ext e2
      obtain ⟨r3, e3⟩ := w2.rs.write (o := .lst (vs.set j v)) (mo' := .lst (xs.set j d)) hl (e2.pre _ _ hA) ⟨_, upd_same, dvs.set j dv2⟩
      exact ⟨_, vs, k, j, rfl, rfl, hv, by rw [dvs.length]; exact hj, q _ _ _ r3 ((e1.trans e2).trans e3) ((w2.to r3 e3).re)⟩, mono_gIx ho.mono hi.mono⟩
end
section
variable {st : Stmt} {rest : List Stmt} {t u : SD} {e : Expr} {te : ED} {pos : Pos}
def dNext : SD := fun E env s => E.nx env s
def dSeq (t u : SD) : SD := fun E env s => t { E with nx := u E } env s
theorem mono_next : MonoS dNext := fun _ _ _ _ l h => l.nx _ _ h
theorem mono_seq (mt : MonoS t) (mu : MonoS u) : MonoS (dSeq t u) := fun a b env s l h => mt { a with nx := u a } { b with nx := u b } env s ⟨fun e s h => mu _ _ _ _ l h, l.rt, l.bk, l.ct⟩ h
theorem pssd_nil {X : DX} : PSsD X [] dNext := ⟨pss_imp pss_nil fun D σ H ⟨env, s, A, B, w, h⟩ => h _ _ _ w.rs .refl w.re, mono_next⟩
theorem seq_le {K : KK} {B : List Addr} {H : Hp} {A : List Addr} {s : Sto} {D : Ends} {u : SD} (mu : MonoS u) (z : K.Z B H A s) : EndsD.Le { PostS K.K B H A s D with nx := u (PostS K.K B H A s D) } (PostS K.K B H A s { D with nx := rdS K u D }) :=
  ⟨fun e s' h σ H' A' r x re => ⟨e, s', A', B, ⟨r, re, K.zc z x⟩, mu _ _ _ _ (PostS.from x) h⟩, fun _ _ h => h, fun _ _ h => h, fun _ _ h => h⟩
theorem pssd_cons {X : DX} (h1 : PSD X st t) (h2 : PSsD X rest u) : PSsD X (st :: rest) (dSeq t u) :=
  ⟨pss_imp (pss_cons h1.ps h2.pss) fun D σ H ⟨env, s, A, B, w, h⟩ => ⟨env, s, A, B, w, h1.mono _ _ _ _ (seq_le (K := X.kk) h2.mono w.z) h⟩, mono_seq h1.mono h2.mono⟩
theorem pssd_one {X : DX} (h1 : PSD X st t) : PSsD X [st] t := ⟨pss_one h1.ps, h1.mono⟩
def dNever : SD := fun _ _ _ => False
theorem psd_never {X : DX} : PSD X st dNever := ⟨ps_imp ps_never fun D σ H ⟨_, _, _, _, _, h⟩ => h.elim, fun _ _ _ _ _ h => h.elim⟩
theorem pssd_never {X : DX} {sts : List Stmt} : PSsD X sts dNever := ⟨pss_imp pss_never fun D σ H ⟨_, _, _, _, _, h⟩ => h.elim, fun _ _ _ _ _ h => h.elim⟩
def dDrop (te : ED) : SD := fun E env s => te env s fun _ s1 => E.nx env s1
theorem psd_expr {X : DX} (he : PD X e te) (hs : swapsWith e none pos.line X.env = pure false := by rfl) : PSD X (.Expr e pos) (dDrop te) :=
  ⟨ps_imp (ps_expr he.pe hs) fun D σ H ⟨env, s, A, B, w, h⟩ => rdE_go he.mono w h fun d s1 v H1 A1 q w1 e1 dv => q σ H1 A1 w1.rs e1 w1.re, fun _ _ _ _ l h => he.mono _ _ _ _ (fun _ _ q => l.nx _ _ q) h⟩
def dRet (te : ED) : SD := fun E env s => te env s E.rt
theorem psd_ret {X : DX} (he : PD X e te) : PSD X (.Return (some e) pos) (dRet te) := ⟨ps_imp (ps_ret he.pe) fun D σ H ⟨env, s, A, B, w, h⟩ => ⟨env, s, A, B, w, h⟩, fun _ _ _ _ l h => he.mono _ _ _ _ (fun _ _ q => l.rt _ _ q) h⟩
def dIfS (c : TD) (t u : SD) : SD := fun E env s => c env s fun b s1 => if b = true then t E env s1 else u E env s1
theorem mono_ifS {c : TD} (mc : Mono c) (mt : MonoS t) (mu : MonoS u) : MonoS (dIfS c t u) := fun a b env s l h => mc _ _ _ _ (fun k s1 q => by
  cases k with
  | true => rw [if_pos rfl] at q ⊢; exact mt _ _ _ _ l q
  | false => rw [if_neg Bool.false_ne_true] at q ⊢; exact mu _ _ _ _ l q) h
theorem psd_if {X : DX} {c : Expr} {a b : List Stmt} {tc : TD} (hc : PTD X c tc) (ha : PSsD X a t) (hb : PSsD X b u) : PSD X (.If c a b pos) (dIfS tc t u) :=
  ⟨ps_imp (ps_if hc.pt ha.pss hb.pss) fun D σ H ⟨env, s, A, B, w, h⟩ => rdT_go hc.mono w h fun k s1 H1 A1 q w1 e1 => by
    cases k with
    | true => rw [if_pos rfl] at q ⊢; exact ⟨env, s1, A1, B, w1, ha.mono _ _ _ _ (PostS.from e1) q⟩
    | false => rw [if_neg Bool.false_ne_true] at q ⊢; exact ⟨env, s1, A1, B, w1, hb.mono _ _ _ _ (PostS.from e1) q⟩, mono_ifS hc.mono ha.mono hb.mono⟩
def dAsg (te : ED) (g : GD) : SD := fun E env s => te env s fun d s1 => g d env s1 E.nx
theorem mono_asg {g : GD} (me : Mono te) (mg : MonoG g) : MonoS (dAsg te g) := fun a b env s l h => me _ _ _ _ (fun d s1 q => mg _ _ _ _ _ l.nx q) h
theorem asg_rd {X : DX} {g : GD} {tg : Expr} (he : PD X e te) (hg : PGD X tg g) (D : Ends) (σ : L2.St) (H : Hp) (h : rdS X.kk (dAsg te g) D σ H) : tAsg (rdE X.kk te) (rdG X.kk g) D σ H := by
  obtain ⟨env, s, A, B, w, h⟩ := h
  exact rdE_go he.mono w h fun d s1 v H1 A1 q w1 e1 dv => ⟨env, s1, A1, B, d, w1, dv, hg.mono _ _ _ _ _ (fun en s' p => PostN.from e1 p) q⟩
theorem psd_asg {X : DX} {g : GD} {tg : Expr} (he : PD X e te) (hg : PGD X tg g) (hs : swapsWithSole [tg] e pos.line X.env = pure false := by rfl) (hw : swappedStores [tg] e X.env = pure none := by rfl) (h1 : (assignEach [tg] X.env).map (·.2) = [assign tg X.env] := by rfl) :
    PSD X (.Assign [tg] e pos) (dAsg te g) := ⟨ps_imp (ps_asg he.pe hg.pg hs hw h1) (asg_rd he hg), mono_asg he.mono hg.mono⟩
theorem set_rd {X : DX} {i : Nat} (he : PD X e te) (D : Ends) (σ : L2.St) (H : Hp) (h : rdS X.kk (dAsg te (gN i)) D σ H) : tAsg (rdE X.kk te) (gName i) D σ H := by
  obtain ⟨env, s, A, B, w, h⟩ := h
  exact rdE_go he.mono w h fun d s1 v H1 A1 q w1 e1 dv => q _ _ _ w1.rs e1 (w1.re.set i dv)
theorem psd_set {X : DX} {i : Nat} {x : Str} {pos' : Pos} (hN : X.N.Nodup) (hi : X.N[i]? = some x) (hx : Loc X.env.scope x) (he : PD X e te) (hs : swapsWith e (some (.Name x pos')) pos.line X.env = pure false := by rfl) (hf : X.fn x = true ∨ X.env.scope.names.lookup x = some .local := by first | exact .inl rfl | exact .inr rfl | assumption) :
    PSD X (.Assign [.Name x pos'] e pos) (dAsg te (gN i)) := ⟨ps_imp (ps_set hN hi hx he.pe hs hf) (set_rd he), mono_asg he.mono mono_gN⟩
def dWhile (c : TD) (t : SD) : SD := fun E env s => ∃ W : Nat → En → Sto → Prop, (∃ m, W m env s) ∧ ∀ m env s, W m env s →
  c env s fun b s1 => if b = true then ∃ N : En → Sto → Prop, (∀ e' s', N e' s' → ∃ m', m' < m ∧ W m' e' s') ∧ t ⟨N, E.rt, E.nx, N⟩ env s1 else E.nx env s1
theorem mono_while {c : TD} (mc : Mono c) (mt : MonoS t) : MonoS (dWhile c t) := fun a b env s l ⟨W, w0, h⟩ => ⟨W, w0, fun m env s w => mc _ _ _ _ (fun k s1 q => by
  cases k with
  | true =>
    rw [if_pos rfl] at q ⊢
    obtain ⟨N, hN, q⟩ := q
    exact ⟨N, hN, mt ⟨N, a.rt, a.nx, N⟩ _ _ _ ⟨fun _ _ h => h, l.rt, l.nx, fun _ _ h => h⟩ q⟩
  | false => rw [if_neg Bool.false_ne_true] at q ⊢; exact l.nx _ _ q) (h m env s w)⟩
theorem psd_while {X : DX} {c : Expr} {body : List Stmt} {tc : TD} (hp : PassesOwn (model X.prog X.w) X.A X.env X.xe) (hc : PTD X c tc) (hb : PSsD X body t) : PSD X (.While c body [] pos) (dWhile tc t) := by
  refine ⟨ps_imp (ps_while hp hc.pt hb.pss) fun D σ H ⟨env, s, A, B, w, W, ⟨m, w0⟩, h⟩ => ?_, mono_while hc.mono hb.mono⟩
  refine ⟨fun m σ1 H1 => ∃ env1 s1 A1, Wo X.kk B H1 A1 s1 env1 σ1 ∧ Ext B H A s H1 A1 s1 ∧ W m env1 s1, ⟨m, env, s, A, w, .refl, w0⟩, ?_⟩
  rintro m σ1 H1 ⟨env1, s1, A1, w1, e1, wm⟩
  refine rdT_go hc.mono w1 (h m env1 s1 wm) fun k s2 H2 A2 q w2 e2 => ?_
  cases k with
  | true =>
    rw [if_pos rfl] at q ⊢
    obtain ⟨N, hN, q⟩ := q
    refine ⟨fun σ3 H3 => ∃ env3 s3 A3, Wo X.kk B H3 A3 s3 env3 σ3 ∧ Ext B H A s H3 A3 s3 ∧ N env3 s3, ?_, ?_⟩
    · rintro σ3 H3 ⟨env3, s3, A3, w3, e3, n3⟩
      obtain ⟨m', hm, wm'⟩ := hN _ _ n3
      exact ⟨m', hm, env3, s3, A3, w3, e3, wm'⟩
    · refine ⟨env1, s2, A2, B, w2, hb.mono _ _ _ _ ⟨fun e' s' n σ' H' A' r x re => ?_, fun d s' h => PostE.from (e1.trans e2) h, fun d s' h => PostN.from (e1.trans e2) h, fun e' s' n σ' H' A' r x re => ?_⟩ q⟩
      · exact ⟨e', s', A', ⟨r, re, X.zc w2.z x⟩, (e1.trans e2).trans x, n⟩
      · exact ⟨e', s', A', ⟨r, re, X.zc w2.z x⟩, (e1.trans e2).trans x, n⟩
  | false =>
    rw [if_neg Bool.false_ne_true] at q ⊢
    exact q _ _ _ w2.rs (e1.trans e2) w2.re
end
abbrev ID := En → Sto → (List D → (Sto → Prop) → Sto → Prop) → Prop
def ItOk (K : PySem.W.Frag) (B : List Addr) (J : It) (ds : List D) (g : Sto → Prop) (H : Hp) (A : List Addr) (s : Sto) : Prop :=
  ∀ (B' : List Addr) (H' : Hp) (A' : List Addr) (s' : Sto), RepS K B' H' A' s' → Same (Fz B H A s) (Fz B' H' A' s') → (∀ (l : Nat) (a : Addr), A[l]? = some a → A'[l]? = some a) → g s' → ∀ i,
    (∀ d, ds[i]? = some d → J.go i H' ∧ ∀ x H2, J.yld i H' x H2 → RepS K B' H2 A' s' ∧ Ext B' H' A' s' H2 A' s' ∧ Dat K (Fz B' H2 A' s') A' d x) ∧ (ds.length ≤ i → J.stop i H')
def PostI (K : PySem.W.Frag) (B : List Addr) (H : Hp) (A : List Addr) (s : Sto) (R : It → Hp → Prop) : List D → (Sto → Prop) → Sto → Prop := fun ds g s' => ∀ (J : It) (H' : Hp) (A' : List Addr), RepS K B H' A' s' → Ext B H A s H' A' s' → ItOk K B J ds g H' A' s' → R J H'
def rdI (K : KK) (t : ID) : TI := fun σ H R => ∃ (env : En) (s : Sto) (A B : List Addr), Wo K B H A s env σ ∧ t env s (PostI K.K B H A s R)
def MonoI (t : ID) : Prop := ∀ env s P P', (∀ ds g s', P ds g s' → P' ds g s') → t env s P → t env s P'
structure PID (X : DX) (tg e : Expr) (t : ID) : Prop where
  pi : PI X tg e (rdI X.kk t)
  mono : MonoI t
theorem pi_imp {X : Cx} {tg e : Expr} {t t' : TI} (h : PI X tg e t) (f : ∀ σ H R, t' σ H R → t σ H R) : PI X tg e t' := ⟨fun pins s σ H R I q => h.run pins s σ H R I (f σ H R q)⟩
section
variable {pos : Pos} {tg e : Expr} {te : ED}
def noG : Sto → Prop := fun _ => True
theorem itok_list {K : PySem.W.Frag} {B : List Addr} {H : Hp} {A : List Addr} {s : Sto} {a : Addr} {vs : List V} {ds : List D} {g : Sto → Prop} (hs : ∀ B' H' A' s', RepS K B' H' A' s' → Same (Fz B H A s) (Fz B' H' A' s') → (∀ (l : Nat) (a : Addr), A[l]? = some a → A'[l]? = some a) → g s' → SqL K H' a vs)
    (hd : DatL K (Fz B H A s) A ds vs) : ItOk K B (Itl K a) ds g H A s := by
  intro B' H' A' s' R e p hg i
  have hs' := hs B' H' A' s' R e p hg
  refine ⟨fun d hi => ?_, fun hi => ⟨vs, hs', by rw [hd.length]; exact hi⟩⟩
  obtain ⟨v, hv, dv⟩ := hd.get hi
  refine ⟨⟨vs, v, hs', hv⟩, fun x H2 ⟨eH, hx⟩ => ?_⟩
  subst eH
  have := hx vs hs'
  rw [hv] at this; cases this
  exact ⟨R, .refl, dv.mono e p⟩
theorem itok_tup {K : PySem.W.Frag} {B : List Addr} {H : Hp} {A : List Addr} {s : Sto} {a : Addr} {vs : List V} {ds : List D} {g : Sto → Prop} (hs : ∀ B' H' A' s', RepS K B' H' A' s' → Same (Fz B H A s) (Fz B' H' A' s') → (∀ (l : Nat) (a : Addr), A[l]? = some a → A'[l]? = some a) → g s' → SqT K H' a vs)
    (hd : DatL K (Fz B H A s) A ds vs) : ItOk K B (Itt K a) ds g H A s := by
  intro B' H' A' s' R e p hg i
  have hs' := hs B' H' A' s' R e p hg
  refine ⟨fun d hi => ?_, fun hi => ⟨vs, hs', by rw [hd.length]; exact hi⟩⟩
  obtain ⟨v, hv, dv⟩ := hd.get hi
  refine ⟨⟨vs, v, hs', hv⟩, fun x H2 ⟨eH, hx⟩ => ?_⟩
  subst eH
  have := hx vs hs'
  rw [hv] at this; cases this
  exact ⟨R, .refl, dv.mono e p⟩
def isL (s : Sto) (x : D) (ds : List D) (g : Sto → Prop) : Prop := (x = .lst ds ∧ g = noG) ∨ (x = .frl ds ∧ g = noG) ∨ ∃ l, x = .ref l ∧ s[l]? = some (some (.lst ds)) ∧ g = fun s' => s'[l]? = some (some (.lst ds))
theorem isL_rd {K : PySem.W.Frag} {B : List Addr} {H : Hp} {A : List Addr} {s : Sto} {x : D} {v : V} {ds : List D} {g : Sto → Prop} (R : RepS K B H A s) (dv : Dat K (Fz B H A s) A x v) (h : isL s x ds g) :
    ∃ a vs, v = .ref a ∧ SqL K H a vs ∧ DatL K (Fz B H A s) A ds vs ∧ ItOk K B (Itl K a) ds g H A s := by
  rcases h with ⟨rfl, rfl⟩ | ⟨rfl, rfl⟩ | ⟨l, rfl, hl, rfl⟩
  · cases dv with
    | lst hs hd => exact ⟨_, _, rfl, sqL_fz (.of hs), hd, itok_list (fun B' H' A' s' R' e p _ => sqL_fz (e.seq (.of hs))) hd⟩
  · cases dv with
    | frl hs hd => exact ⟨_, _, rfl, sqL_fz hs.seq, hd, itok_list (fun B' H' A' s' R' e p _ => sqL_fz (e.seq hs.seq)) hd⟩
  · cases dv with
    | ref hA =>
      obtain ⟨a', ha', vs, hv, hd⟩ := R.ob l _ hl
      rw [hA] at ha'; cases ha'
      refine ⟨_, vs, rfl, .of hv, hd, ?_⟩
      intro B' H' A' s' R' e p hg i
      obtain ⟨a2, ha2, vs', hv', hd'⟩ := R'.ob l _ hg
      rw [p _ _ hA] at ha2; cases ha2
      refine ⟨fun d hi => ?_, fun hi => ⟨vs', .of hv', by rw [hd'.length]; exact hi⟩⟩
      obtain ⟨v, hw, dw⟩ := hd'.get hi
      refine ⟨⟨vs', v, .of hv', hw⟩, fun x H2 ⟨eH, hx⟩ => ?_⟩
      subst eH
      have := hx vs' (.of hv')
      rw [hw] at this; cases this
      exact ⟨R', .refl, dw⟩
def rangeD (lo : Int) (n : Nat) : List D := (List.range n).map fun i => .int (lo + (i : Nat))
theorem itok_range {K : PySem.W.Frag} {B : List Addr} {H : Hp} {A : List Addr} {s : Sto} {lo : Int} {n : Nat} : ItOk K B (Itr lo n) (rangeD lo n) noG H A s := by
  intro B' H' A' s' R e p hg i
  refine ⟨fun d hi => ?_, fun hi => show n ≤ i by simpa [rangeD] using hi⟩
  have hn : i < n := by
    have := (List.getElem?_eq_some_iff.mp hi).1
    simpa [rangeD] using this
  have hd : d = .int (lo + (i : Nat)) := by
    simp [rangeD, hn] at hi
    exact hi.symm
  refine ⟨hn, fun x H2 ⟨eH, hx⟩ => ?_⟩
  subst eH hx hd
  exact ⟨R, .refl, .int _⟩
def iR1 (t : AD) : ID := fun env s R => t env s fun xs s1 => ∃ j : Int, xs = [.int j] ∧ -(2 ^ 62) ≤ j ∧ j < 2 ^ 62 ∧ R (rangeD 0 j.toNat) noG s1
theorem mono_iR1 {t : AD} (m : Mono t) : MonoI (iR1 t) := fun _ _ _ _ f h => m _ _ _ _ (fun _ _ ⟨j, e, a, b, q⟩ => ⟨j, e, a, b, f _ _ _ q⟩) h
theorem pid_range1 {X : DX} {a : Expr} {t : AD} {p : Pos} (hg : Gl X "range") (hm : X.mg "range" = none) (ha : PAD X [a] t) (hs : starEach [a] X.env = [(false, eval a X.env)] := by rfl) : PID X tg (.Call (.Name "range" p) [a] [] pos) (iR1 t) :=
  ⟨pi_imp (pi_range1 hg hm ha.pa hs) fun σ H R ⟨env, s, A, B, w, h⟩ => rdA_go ha.mono w h fun xs s1 vs H1 A1 ⟨j, ex, h1, h2, q⟩ w1 e1 dv => by
    subst ex
    cases dv with
    | cons d1 d2 =>
      cases d1
      cases d2
      exact ⟨j, rfl, h1, h2, q _ _ _ w1.rs e1 itok_range⟩, mono_iR1 ha.mono⟩
def signsD (x : Str) : List D := x.cps.toList.map fun c => .str ⟨#[c]⟩
end
def forD (g : Sto → Prop) (tg : GD) (tb : SD) (E : EndsD) : List D → En → Sto → Prop
  | [], env, s => g s ∧ E.nx env s
  | d :: ds, env, s => g s ∧ tg d env s fun env1 s1 => tb ⟨forD g tg tb E ds, E.rt, E.nx, forD g tg tb E ds⟩ env1 s1
theorem mono_forD {g : Sto → Prop} {tg : GD} {tb : SD} (mg : MonoG tg) (mb : MonoS tb) {a b : EndsD} (l : a.Le b) : ∀ (ds : List D) (env : En) (s : Sto), forD g tg tb a ds env s → forD g tg tb b ds env s
  | [], _, _, ⟨h1, h2⟩ => ⟨h1, l.nx _ _ h2⟩
  | d :: ds, _, _, ⟨h1, h2⟩ => ⟨h1, mg _ _ _ _ _ (fun _ _ q => mb ⟨forD g tg tb a ds, a.rt, a.nx, forD g tg tb a ds⟩ _ _ _ ⟨mono_forD mg mb l ds, l.rt, l.nx, mono_forD mg mb l ds⟩ q) h2⟩
def dFor (it : ID) (tg : GD) (tb : SD) : SD := fun E env s => it env s fun ds g s1 => forD g tg tb E ds env s1
section
variable {pos : Pos}
theorem mono_for {it : ID} {tg : GD} {tb : SD} (mi : MonoI it) (mg : MonoG tg) (mb : MonoS tb) : MonoS (dFor it tg tb) := fun a b env s l h => mi _ _ _ _ (fun ds g s1 q => mono_forD mg mb l ds _ _ q) h
theorem drop_cons {α : Type} {l : List α} {i : Nat} {d : α} (h : l[i]? = some d) : l.drop i = d :: l.drop (i + 1) := by
  obtain ⟨h1, h2⟩ := List.getElem?_eq_some_iff.mp h
  rw [List.drop_eq_getElem_cons h1, h2]
theorem psd_for {X : DX} {tg iter : Expr} {body : List Stmt} {it : ID} {g : GD} {tb : SD} (hp : PassesOwn (model X.prog X.w) X.A X.env X.xe) (hc : X.calm = true) (hi : PID X tg iter it) (hg : PGD X tg g) (hb : PSsD X body tb)
    (hs : ∀ x, foldedSetIterable iter X.env x = pure x := by intro _; rfl) : PSD X (.For tg iter body [] pos) (dFor it g tb) := by
  refine ⟨ps_imp (ps_for hp hc hi.pi hg.pg hb.pss hs) fun D σ H ⟨env, s, A, B, w, h⟩ => ?_, mono_for hi.mono hg.mono hb.mono⟩
  refine ⟨env, s, A, B, w, hi.mono _ _ _ _ (fun ds gd s1 q J H1 A1 r1 e1 ok => ?_) h⟩
  have w1 := w.to r1 e1
  refine ⟨fun i m σ' H' => m = ds.length - i ∧ i ≤ ds.length ∧ ∃ env' s' A', Wo X.kk B H' A' s' env' σ' ∧ Ext B H1 A1 s1 H' A' s' ∧ forD gd g tb (PostS X.K B H A s D) (ds.drop i) env' s', ⟨ds.length, by simp, Nat.zero_le _, env, s1, A1, w1, .refl, by simpa using q⟩, ?_⟩
  rintro i m σ2 H2 ⟨rfl, hi', env2, s2, A2, w2, e2, q2⟩
  have okw := ok B H2 A2 s2 w2.rs e2.same e2.pre
  by_cases hlt : i < ds.length
  · have hd : ds[i]? = some ds[i] := List.getElem?_eq_getElem hlt
    rw [drop_cons hd] at q2
    obtain ⟨hgd, q3⟩ := q2
    obtain ⟨go, yl⟩ := (okw hgd i).1 _ hd
    refine .inr ⟨go, fun σ' H' => ∃ env' s' A', Wo X.kk B H' A' s' env' σ' ∧ Ext B H1 A1 s1 H' A' s' ∧ forD gd g tb (PostS X.K B H A s D) (ds.drop (i + 1)) env' s', fun σ' H' n => ⟨ds.length - (i + 1), by omega, rfl, hlt, n⟩, fun x H3 y => ?_⟩
    obtain ⟨r3, e3, d3⟩ := yl x H3 y
    refine ⟨env2, s2, A2, B, ds[i], w2.to r3 e3, d3, hg.mono _ _ _ _ _ (fun env4 s4 q4 σ4 H4 A4 r4 e4 re4 => ?_) q3⟩
    have x4 := (e2.trans e3).trans e4
    have w4 : Wo X.kk B H4 A4 s4 env4 σ4 := ⟨r4, re4, X.zc w2.z (e3.trans e4)⟩
    refine ⟨env4, s4, A4, B, w4, hb.mono _ _ _ _ ⟨fun e' s' n σ' H' A' r x re => ?_, fun d s' h => PostE.from (e1.trans x4) h, fun d s' h => PostN.from (e1.trans x4) h, fun e' s' n σ' H' A' r x re => ?_⟩ q4⟩
    · exact ⟨e', s', A', ⟨r, re, X.zc w4.z x⟩, x4.trans x, n⟩
    · exact ⟨e', s', A', ⟨r, re, X.zc w4.z x⟩, x4.trans x, n⟩
  · have : i = ds.length := by omega
    subst this
    rw [List.drop_length] at q2
    obtain ⟨hgd, q3⟩ := q2
    exact .inl ⟨(okw hgd _).2 (Nat.le_refl _), q3 _ _ _ w2.rs (e1.trans e2) w2.re⟩
end
end Dl
namespace Dl
open PySem PySem.Spec PyProof.Rows L2
structure PTsD (X : DX) (ifs : List Expr) (t : TD) : Prop where
  pts : PTs X ifs (rdT X.kk t)
  mono : Mono t
def dYes : TD := fun _ s Q => Q true s
theorem mono_yes : Mono dYes := fun _ _ _ _ f h => f _ _ h
theorem pts_imp {X : Cx} {ifs : List Expr} {t t' : TT} (h : PTs X ifs t) (f : ∀ σ H Q, t' σ H Q → t σ H Q) : PTs X ifs t' := ⟨fun pins s σ H Q I q => h.run pins s σ H Q I (f σ H Q q)⟩
theorem ptsd_nil {X : DX} : PTsD X [] dYes := ⟨pts_imp pts_nil fun σ H Q ⟨env, s, A, B, w, h⟩ => h H A w.rs .refl, mono_yes⟩
theorem ptsd_one {X : DX} {c : Expr} {t : TD} (h : PTD X c t) : PTsD X [c] t := ⟨pts_one h.pt, h.mono⟩
theorem wipe_set_comm {σ : L2.St} {i : Nat} {o : Option V} : ∀ {vs : List Nat}, i ∉ vs → L2.wipe (σ.set i o) vs = (L2.wipe σ vs).set i o
  | [], _ => rfl
  | v :: vs, h => by
    unfold L2.wipe
    rw [wipe_set_comm (fun z => h (List.mem_cons_of_mem _ z)), List.set_comm _ _ (fun e => h (by rw [e]; exact List.mem_cons_self))]
theorem wipe_set_in {σ : L2.St} {i : Nat} {o : Option V} : ∀ {vs : List Nat}, i ∈ vs → L2.wipe (σ.set i o) vs = L2.wipe σ vs
  | [], h => by cases h
  | v :: vs, h => by
    unfold L2.wipe
    by_cases hv : i ∈ vs
    · rw [wipe_set_in hv]
    · have e : i = v := by
        rcases List.mem_cons.mp h with h | h
        · exact h
        · exact absurd h hv
      subst e
      rw [wipe_set_comm hv, List.set_set]
theorem wipe_wipe {σ : L2.St} : ∀ (us vs : List Nat), (∀ u ∈ us, u ∈ vs) → L2.wipe (L2.wipe σ us) vs = L2.wipe σ vs
  | [], _, _ => rfl
  | u :: us, vs, h => by
    show L2.wipe ((L2.wipe σ us).set u none) vs = L2.wipe σ vs
    rw [wipe_set_in (h u List.mem_cons_self)]
    exact wipe_wipe us vs fun x hx => h x (List.mem_cons_of_mem _ hx)
theorem wipe_sets {σ : L2.St} {vs : List Nat} : ∀ {is : List Nat} {xs : List V} {σ : L2.St}, (∀ i ∈ is, i ∈ vs) → L2.wipe (setS σ is xs) vs = L2.wipe σ vs
  | [], _, _, _ => by unfold setS; rfl
  | _ :: _, [], _, _ => by unfold setS; rfl
  | i :: is, x :: xs, σ, h => by
    unfold setS
    rw [wipe_sets (σ := σ) fun j hj => h j (List.mem_cons_of_mem _ hj), wipe_set_in (h i List.mem_cons_self)]
inductive CT where
  | one (i : Nat) | many (is : List Nat) | nest (i : Nat) (is : List Nat)
def CT.slots : CT → List Nat
  | .one i => [i]
  | .many is => is
  | .nest i is => i :: is
def CT.g : CT → GD
  | .one i => gN i
  | .many is => gTs is
  | .nest i is => fun d env s Q => ∃ a b, d = .tup [a, b] ∧ gTs is b (env.set i (some a)) s Q
def CT.t (K : PySem.W.Frag) : CT → TG
  | .one i => gName i
  | .many is => gTup K is.length (gNames is)
  | .nest i is => gTup K 2 (gCons (gName i) (gCons (gTup K is.length (gNames is)) gNil))
theorem CT.mono : ∀ c : CT, MonoG c.g
  | .one _ => mono_gN
  | .many _ => mono_gTs
  | .nest _ _ => fun _ _ _ _ _ f ⟨a, b, e, q⟩ => ⟨a, b, e, mono_gTs _ _ _ _ _ f q⟩
theorem CT.rd {K : KK} {B : List Addr} {H : Hp} {A : List Addr} {s : Sto} {env : En} {σ : L2.St} {d : D} {v : V} {vs : List Nat} (c : CT) (hs : ∀ i ∈ c.slots, i ∈ vs) (w : Wo K B H A s env (L2.wipe σ vs)) (dv : Dat K (Fz B H A s) A d v) {P : En → Sto → Prop} {Q : L2.St → Hp → Prop}
    (h : c.g d env s P) (k : ∀ env' σ', P env' s → Wo K B H A s env' σ' → Q σ' H) : c.t K v (L2.wipe σ vs) H fun σ2 H2 => L2.wipe σ2 vs = L2.wipe σ vs ∧ Q σ2 H2 := by
  cases c with
  | one i =>
    refine ⟨?_, k _ _ h ⟨w.rs, w.re.set i dv, w.z⟩⟩
    rw [wipe_set_in (hs i List.mem_cons_self)]
    exact wipe_wipe vs vs fun _ h => h
  | many is =>
    obtain ⟨ds, ed, hl, q⟩ := h
    subst ed
    cases dv with
    | tup hq hd =>
      refine ⟨_, _, rfl, sqT_fz hq, by rw [hd.length]; exact hl, by rw [hd.length]; exact hl, ?_, k _ _ q ⟨w.rs, w.re.sets hd, w.z⟩⟩
      rw [wipe_sets (σ := σ) (is := is) (show ∀ i ∈ is, i ∈ vs from hs)]
      exact wipe_wipe vs vs fun _ h => h
  | nest i is =>
    obtain ⟨a, b, ed, ds, eb, hl, q⟩ := h
    subst ed
    subst eb
    cases dv with
    | tup hq hd =>
      cases hd with
      | cons da hd =>
        cases hd with
        | cons db hd =>
          cases hd
          cases db with
          | tup hq2 hd2 =>
            refine ⟨_, _, rfl, sqT_fz hq, rfl, _, _, rfl, _, _, rfl, ⟨_, _, rfl, sqT_fz hq2, by rw [hd2.length]; exact hl, by rw [hd2.length]; exact hl, rfl, ?_, k _ _ q ⟨w.rs, (w.re.set i da).sets hd2, w.z⟩⟩⟩
            have h2 : ∀ j ∈ is, j ∈ vs := fun j hj => hs j (List.mem_cons_of_mem _ hj)
            rw [wipe_sets (σ := σ) h2, wipe_set_in (hs i List.mem_cons_self)]
            exact wipe_wipe vs vs fun _ h => h
def lcD (g : Sto → Prop) (tg : GD) (tt : TD) (te : ED) (env : En) : List D → Sto → (List D → Sto → Prop) → Prop
  | [], s, Q => g s ∧ Q [] s
  | d :: ds, s, Q => g s ∧ tg d env s fun env1 s1 => tt env1 s1 fun b s2 => if b = true then te env1 s2 fun y s3 => lcD g tg tt te env ds s3 fun ys s4 => Q (y :: ys) s4 else lcD g tg tt te env ds s2 Q
theorem mono_lcD {g : Sto → Prop} {tg : GD} {tt : TD} {te : ED} (mg : MonoG tg) (mt : Mono tt) (me : Mono te) {env : En} : ∀ (ds : List D) (s : Sto) (P P' : List D → Sto → Prop), (∀ d s', P d s' → P' d s') → lcD g tg tt te env ds s P → lcD g tg tt te env ds s P'
  | [], _, _, _, f, ⟨h1, h2⟩ => ⟨h1, f _ _ h2⟩
  | d :: ds, _, P, P', f, ⟨h1, h2⟩ => ⟨h1, mg _ _ _ _ _ (fun env1 s1 h3 => mt _ _ _ _ (fun b s2 h4 => by
    cases b with
    | true => rw [if_pos rfl] at h4 ⊢; exact me _ _ _ _ (fun y s3 h5 => mono_lcD mg mt me ds _ _ _ (fun ys s4 h6 => f _ _ h6) h5) h4
    | false => rw [if_neg Bool.false_ne_true] at h4 ⊢; exact mono_lcD mg mt me ds _ _ _ f h4) h3) h2⟩
def dLcc (it : ID) (tg : GD) (tt : TD) (te : ED) (vs : List Nat) : AD := fun env s Q => it env s fun ds g s1 => ds.length ≤ sizeLine ∧ lcD g tg tt te (wipeE env vs) ds s1 Q
theorem mono_lcc {it : ID} {tg : GD} {tt : TD} {te : ED} {vs : List Nat} (mi : MonoI it) (mg : MonoG tg) (mt : Mono tt) (me : Mono te) : Mono (dLcc it tg tt te vs) := fun _ _ _ _ f h => mi _ _ _ _ (fun ds g s1 ⟨hl, q⟩ => ⟨hl, mono_lcD mg mt me _ _ _ _ f q⟩) h
section
variable {K : PySem.W.Frag} {B : List Addr} {H : Hp} {A : List Addr} {s : Sto} {D0 : Addr}
theorem fz_hide : Same (Fz (D0 :: B) H A s) (Fz B H A s) := fun b u h => by
  obtain ⟨h1, h2, h3⟩ := fz_of h
  exact fz_to h1 h2 (fun z => h3 (List.mem_cons_of_mem _ z)) (fz_nt h)
theorem RepS.hide (R : RepS K B H A s) {o : HO} (hn : H D0 = none) (nt : HidO o := by exact ⟨(fun _ z => nomatch z), (fun _ z => nomatch z), (fun _ z => nomatch z)⟩) : RepS K (D0 :: B) (upd H D0 o) A s ∧ Same (Fz B H A s) (Fz (D0 :: B) (upd H D0 o) A s) := by
  have ne : ∀ a, H a ≠ none → a ≠ D0 := fun a ha z => ha (by rw [z]; exact hn)
  have e1 : Same (Fz B H A s) (Fz (D0 :: B) (upd H D0 o) A s) := fun b u h => by
    obtain ⟨h1, h2, h3⟩ := fz_of h
    have nb : b ≠ D0 := ne_of_none h1 hn
    exact fz_to (by rw [upd_ne nb]; exact h1) h2 (fun z => (List.mem_cons.mp z).elim nb h3) (fz_nt h)
  refine ⟨⟨R.len, R.inj, fun a ha => ?_, fun b hb => ?_, fun b hb => ?_, fun b hb => ?_, fun a ha => by rw [upd_ne (ne a (R.hd a ha))]; exact R.hx a ha, tabs_new R.tb hn, fun l mo h => ?_⟩, e1⟩
  · rw [upd_ne (ne a (R.hd a ha))]; exact R.hd a ha
  · rcases List.mem_cons.mp hb with e | hb
    · rw [e, upd_same]; exact fun z => nomatch z
    · rw [upd_ne (ne b (R.hb b hb))]; exact R.hb b hb
  · rcases List.mem_cons.mp hb with e | hb
    · rw [e]; exact fun z => R.hd _ z hn
    · exact R.ab b hb
  · rcases List.mem_cons.mp hb with e | hb
    · rw [e, upd_same]; exact fun u z => Option.some.inj z ▸ nt
    · rw [upd_ne (ne b (R.hb b hb))]; exact R.ht b hb
  · obtain ⟨a, ha, ho⟩ := R.ob l mo h
    exact ⟨a, ha, ho.mono e1 (fun _ _ h => h) (upd_ne (ne a (R.hd a (List.mem_of_getElem? ha))))⟩
theorem RepS.hidW (R : RepS K (D0 :: B) H A s) {o : HO} (nt : HidO o := by exact ⟨(fun _ z => nomatch z), (fun _ z => nomatch z), (fun _ z => nomatch z)⟩) : RepS K (D0 :: B) (upd H D0 o) A s ∧ Same (Fz (D0 :: B) H A s) (Fz (D0 :: B) (upd H D0 o) A s) := by
  have nA : ∀ a ∈ A, a ≠ D0 := fun a ha z => R.ab D0 List.mem_cons_self (by rw [← z]; exact ha)
  have e1 : Same (Fz (D0 :: B) H A s) (Fz (D0 :: B) (upd H D0 o) A s) := fun b u h => by
    obtain ⟨h1, h2, h3⟩ := fz_of h
    exact fz_to (by rw [upd_ne (fun z => h3 (by rw [z]; exact List.mem_cons_self))]; exact h1) h2 h3 (fz_nt h)
  refine ⟨⟨R.len, R.inj, fun a ha => ?_, fun b hb => ?_, R.ab, fun b hb => ?_, fun a ha => by rw [upd_ne (nA a ha)]; exact R.hx a ha, tabs_upd R.tb fun u e => ⟨(R.ht D0 List.mem_cons_self u e).b, (R.ht D0 List.mem_cons_self u e).x⟩, fun l mo h => ?_⟩, e1⟩
  · rw [upd_ne (nA a ha)]; exact R.hd a ha
  · by_cases e : b = D0
    · rw [e, upd_same]; exact fun z => nomatch z
    · rw [upd_ne e]; exact R.hb b hb
  · by_cases e : b = D0
    · rw [e, upd_same]; exact fun u z => Option.some.inj z ▸ nt
    · rw [upd_ne e]; exact R.ht b hb
  · obtain ⟨a, ha, ho⟩ := R.ob l mo h
    exact ⟨a, ha, ho.mono e1 (fun _ _ h => h) (upd_ne (nA a (List.mem_of_getElem? ha)))⟩
theorem RepS.show (R : RepS K (D0 :: B) H A s) : RepS K B H A s :=
  ⟨R.len, R.inj, R.hd, fun b hb => R.hb b (List.mem_cons_of_mem _ hb), fun b hb => R.ab b (List.mem_cons_of_mem _ hb), fun b hb => R.ht b (List.mem_cons_of_mem _ hb), R.hx, R.tb, fun l mo h => let ⟨a, ha, ho⟩ := R.ob l mo h; ⟨a, ha, ho.mono fz_hide (fun _ _ h => h) rfl⟩⟩
end
section
variable {pos : Pos}
structure LcEnd (K : PySem.W.Frag) (B : List Addr) (D0 : Addr) (H1 : Hp) (A1 : List Addr) (s1 : Sto) (H : Hp) (A : List Addr) (s : Sto) (ds : List D) : Prop where
  rs : RepS K (D0 :: B) H A s
  same : Same (Fz B H1 A1 s1) (Fz (D0 :: B) H A s)
  pre : ∀ (l : Nat) (a : Addr), A1[l]? = some a → A[l]? = some a
  hid : ∀ b ∈ B, H b = H1 b
  nb : D0 ∉ B
  it : ∃ vs, H D0 = some (.lst vs) ∧ DatL K (Fz (D0 :: B) H A s) A ds vs
theorem lc_rd {it : ID} {c : CT} {tt : TD} {te : ED} {own : List Nat} (mi : MonoI it) (mt : Mono tt) (me : Mono te) (hs : ∀ i ∈ c.slots, i ∈ own) {K : KK} {B : List Addr} {H : Hp} {A : List Addr} {s : Sto} {env : En} {σ : L2.St} {P : List D → Sto → Prop} {Q : VK}
    (w : Wo K B H A s env σ) (h : dLcc it c.g tt te own env s P)
    (fin : ∀ (ds : List D) (s1 s2 : Sto) (D0 : Addr) (H1 H2 : Hp) (A1 A2 : List Addr), P ds s2 → Ext B H A s H1 A1 s1 → LcEnd K B D0 H1 A1 s1 H2 A2 s2 ds → Q (.ref D0) H2) :
    tLc (rdI K it) (c.t K) (rdT (kk0 K.K) tt) (rdE (kk0 K.K) te) own σ H Q := by
  refine ⟨env, s, A, B, w, mi _ _ _ _ (fun ds gd s1 q J H1 A1 r1 e1 ok => ?_) h⟩
  obtain ⟨hlen, q⟩ := q
  intro D0 hD0
  have w1 := w.to r1 e1
  obtain ⟨r1', s1'⟩ := r1.hide (D0 := D0) (o := .lst []) hD0
  have nb : D0 ∉ B := fun z => r1.hb D0 z hD0
  let P2 : Nat → Hp → Prop := fun i H' => ∃ (s' : Sto) (A' : List Addr) (acc : List D), LcEnd K B D0 H1 A1 s1 H' A' s' acc ∧ RepE K (Fz (D0 :: B) H' A' s') A' (wipeE env own) (L2.wipe σ own) ∧ acc.length ≤ i ∧
    lcD gd c.g tt te (wipeE env own) (ds.drop i) s' fun ys s4 => P (acc ++ ys) s4
  refine ⟨fun i m H' => m = ds.length - i ∧ i ≤ ds.length ∧ P2 i H', ⟨ds.length, by simp, Nat.zero_le _, s1, A1, [], ⟨r1', s1', fun _ _ h => h, fun b hb => upd_ne (fun z => nb (by rw [← z]; exact hb)), nb, [], upd_same, .nil⟩, ?_, Nat.zero_le _, by simpa using q⟩, ?_⟩
  · have := (w1.re.wipe own)
    exact ⟨this.len, fun i d hd => let ⟨v, h1, h2⟩ := this.get i d hd; ⟨v, h1, h2.mono s1' fun _ _ h => h⟩⟩
  rintro i m H2 ⟨rfl, hi, s2, A2, acc, le, re2, hacc, q2⟩
  have okw := ok (D0 :: B) H2 A2 s2 le.rs le.same le.pre
  by_cases hlt : i < ds.length
  · have hd : ds[i]? = some ds[i] := List.getElem?_eq_getElem hlt
    rw [drop_cons hd] at q2
    obtain ⟨hgd, q3⟩ := q2
    obtain ⟨go, yl⟩ := (okw hgd i).1 _ hd
    refine .inr ⟨go, P2 (i + 1), fun H' n => ⟨ds.length - (i + 1), by omega, rfl, hlt, n⟩, fun x H3 y => ?_⟩
    obtain ⟨r3, e3, d3⟩ := yl x H3 y
    have w3 : Wo (kk0 K.K) (D0 :: B) H3 A2 s2 (wipeE env own) (L2.wipe σ own) := (Wo.mk (K := kk0 K.K) le.rs re2 trivial).to r3 e3
    have step : ∀ {H' : Hp} {A' : List Addr} {s' : Sto}, RepS K (D0 :: B) H' A' s' → Ext (D0 :: B) H2 A2 s2 H' A' s' → LcEnd K B D0 H1 A1 s1 H' A' s' acc ∧ RepE K (Fz (D0 :: B) H' A' s') A' (wipeE env own) (L2.wipe σ own) := fun {H' A' s'} r' e' => by
      obtain ⟨vs, hv, dv⟩ := le.it
      exact ⟨⟨r', le.same.trans e'.same, fun l a h => e'.pre l a (le.pre l a h), fun b hb => (e'.hid b (List.mem_cons_of_mem _ hb)).trans (le.hid b hb), nb, vs, (e'.hid D0 List.mem_cons_self).trans hv, dv.ext e'⟩, re2.ext e'⟩
    refine c.rd (K := kk0 K.K) hs w3 d3 q3 fun env4 σ4 q4 w4 => ?_
    refine rdT_go mt w4 q4 fun b s5 H5 A5 q5 w5 e5 => ?_
    cases b with
    | false =>
      rw [if_neg Bool.false_ne_true] at q5 ⊢
      obtain ⟨le5, re5⟩ := step w5.rs (e3.trans e5)
      exact ⟨s5, A5, acc, le5, re5, Nat.le_succ_of_le hacc, q5⟩
    | true =>
      rw [if_pos rfl] at q5 ⊢
      refine rdE_go me w5 q5 fun y s6 v6 H6 A6 q6 w6 e6 d6 => ?_
      obtain ⟨le6, re6⟩ := step w6.rs ((e3.trans e5).trans e6)
      obtain ⟨vs, hv, dv⟩ := le6.it
      refine ⟨vs, hv, by rw [dv.length]; omega, ?_⟩
      obtain ⟨r7, s7⟩ := le6.rs.hidW (o := .lst (vs ++ [v6]))
      refine ⟨s6, A6, acc ++ [y], ⟨r7, le6.same.trans s7, le6.pre, fun b hb => (upd_ne (fun z => nb (by rw [← z]; exact hb))).trans (le6.hid b hb), nb, _, upd_same, ?_⟩, ?_, by simp; exact hacc, ?_⟩
      · exact (dv.append (.cons d6 .nil)).mono s7 fun _ _ h => h
      · exact ⟨re6.len, fun i d hd => let ⟨v, h1, h2⟩ := re6.get i d hd; ⟨v, h1, h2.mono s7 fun _ _ h => h⟩⟩
      · exact mono_lcD c.mono mt me _ _ _ _ (fun ys s4 h4 => by rw [List.append_assoc]; exact h4) q6
  · have : i = ds.length := by omega
    subst this
    rw [List.drop_length] at q2
    obtain ⟨hgd, q3⟩ := q2
    rw [List.append_nil] at q3
    exact .inl ⟨(okw hgd _).2 (Nat.le_refl _), fin acc s1 s2 D0 H1 H2 A1 A2 q3 e1 le⟩
def dLc (it : ID) (tg : GD) (tt : TD) (te : ED) (vs : List Nat) : ED := fun env s Q => dLcc it tg tt te vs env s fun ds s1 => Q (.lst ds) s1
theorem mono_lc {it : ID} {tg : GD} {tt : TD} {te : ED} {vs : List Nat} (mi : MonoI it) (mg : MonoG tg) (mt : Mono tt) (me : Mono te) : Mono (dLc it tg tt te vs) := fun _ _ _ _ f h => mono_lcc mi mg mt me _ _ _ _ (fun _ _ q => f _ _ q) h
theorem lc_rdF {it : ID} {c : CT} {tt : TD} {te : ED} {own : List Nat} (mi : MonoI it) (mt : Mono tt) (me : Mono te) (hs : ∀ i ∈ c.slots, i ∈ own) {K : KK} (σ : L2.St) (H : Hp) (Q : VK) (h : rdE K (dLc it c.g tt te own) σ H Q) : tLc (rdI K it) (c.t K) (rdT (kk0 K.K) tt) (rdE (kk0 K.K) te) own σ H Q := by
  obtain ⟨env, s, A, B, w, h⟩ := h
  refine lc_rd mi mt me hs w h fun ds s1 s2 D0 H1 H2 A1 A2 p e1 le => ?_
  obtain ⟨vs, hv, dv⟩ := le.it
  refine p _ _ _ le.rs.show (e1.trans ⟨le.same.trans fz_hide, le.pre, le.hid⟩) (.lst (fz_to hv (fun ⟨l, mo, h1, h2, _⟩ => le.rs.ab D0 List.mem_cons_self (List.mem_of_getElem? h2)) le.nb) (dv.mono fz_hide fun _ _ h => h))
section
variable {elt tg iter : Expr} {ifs : List Expr} {scope : Scope} {own : List (Str × Nat)} {it : ID} {tt : TD} {te : ED}
structure LcP (X : DX) (elt tg : Expr) (ifs : List Expr) (scope : Scope) (c : CT) (tt : TD) (te : ED) : Prop where
  hg : ∀ (s : Shared) (H : Hp) (C : Addr) (cl : List (Str × Addr)) (fp : List Addr), PG (X.blk s H scope (compEnvC scope cl C X.env) fp) tg (c.t X.K)
  ht : ∀ (s : Shared) (H : Hp) (C : Addr) (cl : List (Str × Addr)) (fp : List Addr), PTsD (dx0 (X.blk s H scope (compEnvC scope cl C X.env) fp)) ifs tt
  he : ∀ (s : Shared) (H : Hp) (C : Addr) (cl : List (Str × Addr)) (fp : List Addr), PD (dx0 (X.blk s H scope (compEnvC scope cl C X.env) fp)) elt te
theorem pd_lc {X : DX} (c : CT) (hc : X.calm = true) (hN : X.N.Nodup) (hi : PID X tg iter it) (ok : BlkOk X.N X.env.scope scope own) (p : LcP X elt tg ifs scope c tt te) (sl : ∀ i ∈ c.slots, i ∈ own.map (·.2))
    (hs : ∀ x, foldedSetIterable iter X.env x = pure x := by intro _; rfl) : PD X (.ListComp elt [⟨tg, iter, ifs, 0⟩] scope pos) (dLc it c.g tt te (own.map (·.2))) :=
  have mt : Mono tt := (p.ht X.s_0 (fun _ => none) 0 [] []).mono
  have me : Mono te := (p.he X.s_0 (fun _ => none) 0 [] []).mono
  ⟨pe_imp (pe_lc hc hN hi.pi ok p.hg (fun s H C cl fp => (p.ht s H C cl fp).pts) (fun s H C cl fp => (p.he s H C cl fp).pe) hs) (lc_rdF hi.mono mt me sl), mono_lc hi.mono c.mono mt me⟩
theorem psd_setLc {X : DX} (c : CT) {i : Nat} {y : Str} {py spos : Pos} (hc : X.calm = true) (hN : X.N.Nodup) (hy : X.N[i]? = some y) (hyl : X.env.scope.names.lookup y = some .local)
    (hsw : swapsWith (.ListComp elt [⟨tg, iter, ifs, 0⟩] scope pos) (some (.Name y py)) spos.line X.env = pure true) (hi : PID X tg iter it) (ok : BlkOk X.N X.env.scope scope own) (p : LcP X elt tg ifs scope c tt te) (sl : ∀ i ∈ c.slots, i ∈ own.map (·.2))
    (hs : ∀ x, foldedSetIterable iter X.env x = pure x := by intro _; rfl) : PSD X (.Assign [.Name y py] (.ListComp elt [⟨tg, iter, ifs, 0⟩] scope pos) spos) (dAsg (dLc it c.g tt te (own.map (·.2))) (gN i)) :=
  have mt : Mono tt := (p.ht X.s_0 (fun _ => none) 0 [] []).mono
  have me : Mono te := (p.he X.s_0 (fun _ => none) 0 [] []).mono
  ⟨ps_imp (ps_setLc hc hN hy hyl hsw hi.pi ok p.hg (fun s H C cl fp => (p.ht s H C cl fp).pts) (fun s H C cl fp => (p.he s H C cl fp).pe) hs) fun D σ H ⟨env, s, A, B, w, h⟩ =>
    lc_rdF hi.mono mt me sl σ H _ ⟨env, s, A, B, w, mono_lc hi.mono c.mono mt me _ _ _ _ (fun d s' q v H' A' r e dv => q _ _ _ r e ((w.re.ext e).set i dv)) h⟩, mono_asg (mono_lc hi.mono c.mono mt me) mono_gN⟩
end
end
abbrev SpD := List D → Sto → (D → Sto → Prop) → XD → Prop
def PostX (K : PySem.W.Frag) (mg : Str → Option Value) (B : List Addr) (H : Hp) (A : List Addr) (s : Sto) (E : XK) : XD := fun x fs s' => ∀ (cls : Value) (dx : Option Addr) (H' : Hp) (A' : List Addr), mg x = some cls → RepS K B H' A' s' → Ext B H A s H' A' s' → XRep K (Fz B H' A' s') A' fs dx → E cls dx H'
def liftSp (K : PySem.W.Frag) (mg : Str → Option Value) (sp : SpD) : Sp := fun vs H Q E => ∃ (ds : List D) (s : Sto) (A B : List Addr), RepS K B H A s ∧ DatL K (Fz B H A s) A ds vs ∧ sp ds s (PostE K B H A s Q) (PostX K mg B H A s E)
def MonoSp (sp : SpD) : Prop := ∀ ds s P P' E E', (∀ d s', P d s' → P' d s') → (∀ c fs s', E c fs s' → E' c fs s') → sp ds s P E → sp ds s P' E'
structure RoomG (k : Nat) (A : Around) : Prop where
  r : Room k A
  g : A.guards = some []
theorem RoomG.mono {j k : Nat} {A : Around} (r : RoomG k A) (h : j ≤ k) : RoomG j A := ⟨r.r.mono h, r.g⟩
theorem RoomG.deeper {k : Nat} {A : Around} (r : RoomG (k + 1) A) (env : PySem.Env) : RoomG k (A.deeper env) := ⟨r.r.deeper env, r.g⟩
theorem RoomG.units {k : Nat} {A : Around} (r : RoomG k A) : A.units + 64 < cLine := r.r.units
structure FnD (P : Program) (w : World) (K : PySem.W.Frag) (mg : Str → Option Value) (base : Heap) (CX : CXT) (k : Nat) (f : Addr) (fd : FuncData) (ps : List Str) (sp : SpD) : Prop where
  len : ∀ ds s Q E, sp ds s Q E → ds.length = ps.length
  run : ∀ (A : Around) (outer : List PySem.Env) (s : Shared) (H : Hp) (args : Args) (us : List Value) (vs : List V) (Q : VK) (E : XK), RoomG k A → Env0 P w K mg base A outer s H → BindsTo s fd args (ps.zip us) → Vals vs us → liftSp K mg sp vs H Q E →
    codeAny (model P w) A (.call (.ref f) args) (CR CX outer P w H s Q E) s
  mono : MonoSp sp
theorem FnD.up {P : Program} {w : World} {K : PySem.W.Frag} {mg : Str → Option Value} {base : Heap} {CX : CXT} {j k : Nat} {f : Addr} {fd : FuncData} {ps : List Str} {sp : SpD} (F : FnD P w K mg base CX j f fd ps sp) (h : j ≤ k) : FnD P w K mg base CX k f fd ps sp :=
  ⟨F.len, fun A outer s H args us vs Q E hr => F.run A outer s H args us vs Q E (hr.mono h), F.mono⟩
theorem liftSp.len {K : PySem.W.Frag} {mg : Str → Option Value} {sp : SpD} {ps : List Str} (h : ∀ ds s Q E, sp ds s Q E → ds.length = ps.length) {vs : List V} {H : Hp} {Q : VK} {E : XK} (q : liftSp K mg sp vs H Q E) : vs.length = ps.length := by
  obtain ⟨ds, s, A, B, _, d, q⟩ := q
  rw [d.length]; exact h _ _ _ _ q
section
variable {pos p : Pos} {CX : CXT} {k : Nat} {f : Addr} {fd : FuncData} {ps : List Str} {sp : SpD} {x : Str} {e : Expr} {es : List Expr} {t : AD} {ds : List Value} {dvs : List V} {dds : List D}
theorem FnD.go {X : Cx} {pins : List (Addr × Obj)} {σ : L2.St} {H : Hp} {s : Shared} {Q : VK} {E : XK} {us zs : List Value} {kw : List (Str × Value)} {vs : List V} (F : FnD X.prog X.w X.K X.mg X.base CX k f fd ps sp) (hr : RoomG k X.A) (hx : PassesAt CX X σ E) (I : Inv X pins σ H s)
    (b : BindsTo s fd ⟨us, kw⟩ (ps.zip zs)) (r : Vals vs zs) (h : liftSp X.K X.mg sp vs H Q E) : wpAny (model X.prog X.w) X.A (call (.ref f) us kw) (EP X pins σ Q) X.xe s := by
  have c := F.run X.A X.stack s H ⟨us, kw⟩ zs vs Q E hr I.env0 b r h
  refine wpAny_call (codeAny_mono c fun o s1 ho => ?_)
  match o, ho with
  | .error e, ho => exact hx pins H s e s1 I ho
  | .ok (.ret u), ho => exact I.after ho
def dCall (sp : SpD) (dds : List D) (t : AD) : ED := fun env s Q => t env s fun xs s1 => sp (xs ++ dds) s1 Q fun _ _ _ => False
def dCallX (W : WXD) (sp : SpD) (dds : List D) (t : AD) : ED := fun env s Q => t env s fun xs s1 => sp (xs ++ dds) s1 Q fun x fs s' => W x fs env s'
theorem mono_call (ms : MonoSp sp) (mt : Mono t) : Mono (dCall sp dds t) := fun _ _ _ _ g h => mt _ _ _ _ (fun _ _ q => ms _ _ _ _ _ _ g (fun _ _ _ h => h) q) h
theorem mono_callX {W : WXD} (ms : MonoSp sp) (mt : Mono t) : Mono (dCallX W sp dds t) := fun _ _ _ _ g h => mt _ _ _ _ (fun _ _ q => ms _ _ _ _ _ _ g (fun _ _ _ h => h) q) h
def tCallG (K : PySem.W.Frag) (mg : Str → Option Value) (sp : SpD) (dvs : List V) (E : L2.St → XK) (t : TA) : TE := fun σ H Q => t σ H fun vs H1 => liftSp K mg sp (vs ++ dvs) H1 Q (E σ)
theorem pe_callG {X : Cx} {E : L2.St → XK} {t : TA} (F : FnD X.prog X.w X.K X.mg X.base CX k f fd ps sp) (hr : RoomG k X.A) (hg : Gl X x) (hm : X.mg x = some (.ref f)) (hk : PySem.W.keepIn X.K (.ref f) = true) (hb : Binds X.K fd ps ds) (hd : Vals dvs ds) (hx : ∀ σ, PassesAt CX X σ (E σ)) (ha : PA X (e :: es) t)
    (h1 : starEach (e :: es) X.env = (false, eval e X.env) :: starEach es X.env) (hpl : (backTo pos (starEach es X.env)).any (·.1) = false) (hdb : (x == ("__debug__" : Str)) = false) : PE X (.Call (.Name x p) (e :: es) [] pos) (tCallG X.K X.mg sp dvs E t) := by
  constructor
  intro pins s σ H Q I h
  apply wpAny_Call_Name_kw
  refine ld_glob I hg hm ?_ hdb
  have args := ha.run pos pins s σ H _ I h
  refine PySem.W.callWith_K (h₀ := X.base) I.ok.mod.kin hk (thn args fun us s1 z => ?_) h1 hpl
  obtain ⟨vs, H1, J, r, q⟩ := z
  have r2 := r.append hd
  exact ⟨J.kIn, F.go hr (hx σ) J (hb s1 us J.kIn (r2.length.symm.trans (liftSp.len F.len q))) r2 q⟩
theorem pd_call {X : DX} (F : FnD X.prog X.w X.K X.mg X.base CX0 k f fd ps sp) (hr : RoomG k X.A) (hg : Gl X x) (hm : X.mg x = some (.ref f)) (hk : PySem.W.keepIn X.K (.ref f) = true) (hb : Binds X.K fd ps ds) (hd : Vals dvs ds) (hdd : ∀ (F : Hp) (A : List Addr), DatL X.K F A dds dvs) (ha : PAD X (e :: es) t)
    (h1 : starEach (e :: es) X.env = (false, eval e X.env) :: starEach es X.env := by rfl) (hpl : (backTo pos (starEach es X.env)).any (·.1) = false := by rfl) (hdb : (x == ("__debug__" : Str)) = false := by decide) : PD X (.Call (.Name x p) (e :: es) [] pos) (dCall sp dds t) := by
  refine ⟨pe_imp (pe_callG (E := fun _ _ _ _ => False) F hr hg hm hk hb hd (fun σ pins H s e s' I c => L2.pass0 pins σ H s e s' I c) ha.pa h1 hpl hdb) fun σ H Q ⟨env, s, A, B, w, h⟩ => ?_, mono_call F.mono ha.mono⟩
  exact rdA_go ha.mono w h fun xs s1 vs H1 A1 q w1 e1 dv => ⟨xs ++ dds, s1, A1, B, w1.rs, dv.append (hdd _ _), F.mono _ _ _ _ _ _ (fun d s' q => PostE.from e1 q) (fun _ _ _ h => h.elim) q⟩
theorem pd_callX {X : DX} (F : FnD X.prog X.w X.K X.mg X.base (L2N.CX X.prog X.w) k f fd ps sp) (hr : RoomG k X.A) (hg : Gl X x) (hm : X.mg x = some (.ref f)) (hk : PySem.W.keepIn X.K (.ref f) = true) (hb : Binds X.K fd ps ds) (hd : Vals dvs ds) (hdd : ∀ (F : Hp) (A : List Addr), DatL X.K F A dds dvs) (ha : PAD X (e :: es) t)
    (h1 : starEach (e :: es) X.env = (false, eval e X.env) :: starEach es X.env := by rfl) (hpl : (backTo pos (starEach es X.env)).any (·.1) = false := by rfl) (hdb : (x == ("__debug__" : Str)) = false := by decide) : PD X (.Call (.Name x p) (e :: es) [] pos) (dCallX X.WD sp dds t) := by
  refine ⟨pe_imp (pe_callG (E := WE X.W) F hr hg hm hk hb hd (fun σ => L2N.passAt X.tk σ) ha.pa h1 hpl hdb) fun σ H Q ⟨env, s, A, B, w, h⟩ => ?_, mono_callX F.mono ha.mono⟩
  exact rdA_go ha.mono w h fun xs s1 vs H1 A1 q w1 e1 dv => ⟨xs ++ dds, s1, A1, B, w1.rs, dv.append (hdd _ _), F.mono _ _ _ _ _ _ (fun d s' q => PostE.from e1 q) (fun c fs s' h cls dx H' A' hm r x xr => X.wd c fs env s' cls dx σ B H' A' (w1.to r x) hm xr h) q⟩
end
end Dl
namespace Dl
open PySem PySem.Spec PyProof.Rows L2
def seqL (s : Sto) : D → Option (List D)
  | .lst ds => some ds
  | .frl ds => some ds
  | .ref l => match s[l]? with
    | some (some (.lst ds)) => some ds
    | _ => none
  | _ => none
def seqM (s : Sto) : D → Option (List D)
  | .lst ds => some ds
  | .ref l => match s[l]? with
    | some (some (.lst ds)) => some ds
    | _ => none
  | _ => none
def seqT : D → Option (List D)
  | .tup ds => some ds
  | _ => none
@[simp] theorem seqL_lst (s : Sto) (ds : List D) : seqL s (.lst ds) = some ds := rfl
@[simp] theorem seqL_frl (s : Sto) (ds : List D) : seqL s (.frl ds) = some ds := rfl
@[simp] theorem seqM_lst (s : Sto) (ds : List D) : seqM s (.lst ds) = some ds := rfl
@[simp] theorem seqT_tup (ds : List D) : seqT (.tup ds) = some ds := rfl
theorem seqL_ref {s : Sto} {l : Nat} {ds : List D} (h : s[l]? = some (some (.lst ds))) : seqL s (.ref l) = some ds := by
  show (match s[l]? with | some (some (.lst ds)) => some ds | _ => none) = some ds
  rw [h]
theorem seqM_ref {s : Sto} {l : Nat} {ds : List D} (h : s[l]? = some (some (.lst ds))) : seqM s (.ref l) = some ds := by
  show (match s[l]? with | some (some (.lst ds)) => some ds | _ => none) = some ds
  rw [h]
theorem of_ref {s : Sto} {l : Nat} {ds : List D} (h : (match s[l]? with | some (some (.lst ds)) => some ds | _ => none) = some ds) : s[l]? = some (some (.lst ds)) := by
  split at h
  · rename_i q; cases h; exact q
  · cases h
section
variable {K : PySem.W.Frag} {B : List Addr} {H : Hp} {A : List Addr} {s : Sto} {x : D} {v : V} {ds : List D}
theorem of_seqM (R : RepS K B H A s) (dv : Dat K (Fz B H A s) A x v) (h : seqM s x = some ds) : ∃ a vs, v = .ref a ∧ H a = some (.lst vs) ∧ DatL K (Fz B H A s) A ds vs := by
  cases x with
  | exc _ _ => cases h
  | lst xs =>
    cases dv with
    | lst hs hd => cases h; exact ⟨_, _, rfl, (fz_of hs).1, hd⟩
  | ref l =>
    cases dv with
    | ref hA =>
      obtain ⟨a', ha', vs, hv, hd⟩ := R.ob l _ (of_ref h)
      rw [hA] at ha'; cases ha'
      exact ⟨_, vs, rfl, hv, hd⟩
  | non => cases h
  | bl _ => cases h
  | int _ => cases h
  | str _ => cases h
  | tup _ => cases h
  | frl _ => cases h
  | dk _ _ => cases h
  | dt _ _ => cases h
theorem of_seqL (R : RepS K B H A s) (dv : Dat K (Fz B H A s) A x v) (h : seqL s x = some ds) : ∃ a vs, v = .ref a ∧ SqL K H a vs ∧ DatL K (Fz B H A s) A ds vs := by
  by_cases e : ∃ xs, x = .frl xs
  · obtain ⟨xs, rfl⟩ := e
    cases dv with
    | frl hs hd => cases h; exact ⟨_, _, rfl, sqL_fz hs.seq, hd⟩
  · have h' : seqM s x = some ds := by
      cases x with
      | frl xs => exact absurd ⟨xs, rfl⟩ e
      | _ => exact h
    obtain ⟨a, vs, e1, e2, e3⟩ := of_seqM R dv h'
    exact ⟨a, vs, e1, .of e2, e3⟩
theorem of_seqT (dv : Dat K (Fz B H A s) A x v) (h : seqT x = some ds) : ∃ a vs, v = .ref a ∧ SqT K H a vs ∧ DatL K (Fz B H A s) A ds vs := by
  cases x with
  | tup xs =>
    cases dv with
    | tup hs hd => cases h; exact ⟨_, _, rfl, sqT_fz hs, hd⟩
  | lst _ => cases h
  | frl _ => cases h
  | ref _ => cases h
  | exc _ _ => cases h
  | non => cases h
  | bl _ => cases h
  | int _ => cases h
  | str _ => cases h
  | dk _ _ => cases h
  | dt _ _ => cases h
end
theorem PostE.here {K : PySem.W.Frag} {B : List Addr} {H : Hp} {A : List Addr} {s : Sto} {Q : VK} {d : D} {v : V} (R : RepS K B H A s) (h : PostE K B H A s Q d s) (dv : Dat K (Fz B H A s) A d v) : Q v H := h v H A R .refl dv
theorem PostE.new {K : PySem.W.Frag} {B : List Addr} {H : Hp} {A : List Addr} {s : Sto} {Q : VK} {d : D} {p : Addr} {o : HO} (R : RepS K B H A s) (h : PostE K B H A s Q d s) (hp : H p = none)
    (dv : ∀ F, Same (Fz B H A s) F → F p = some o → Dat K F A d (.ref p)) (nt : ∀ ps, o ≠ .tbl ps := by exact fun _ z => nomatch z) : Q (.ref p) (upd H p o) := by
  obtain ⟨r2, e2, f2⟩ := R.laid (o := o) hp nt
  exact h _ _ _ r2 e2 (dv _ e2.same f2)
section
variable {f : Value → Value → Sem Value}
theorem opx_of {X : Cx} {r : R2} {o : O2} (h : OpR X f r) (l : ∀ (x y : D) (s : Sto) (v w : V) (H : Hp) (A B : List Addr) (Q : VK), RepS X.K B H A s → Dat X.K (Fz B H A s) A x v → Dat X.K (Fz B H A s) A y w → o x y s (PostE X.K B H A s Q) → r v w H Q) : OpX X f o := ⟨r, h, l⟩
def oII (g : Int → Int → D) : O2 := fun x y s Q => ∃ i j, x = .int i ∧ y = .int j ∧ Q (g i j) s
def oIIc (c : Int → Int → Prop) (g : Int → Int → D) : O2 := fun x y s Q => ∃ i j, x = .int i ∧ y = .int j ∧ c i j ∧ Q (g i j) s
theorem opx_ii {X : Cx} {g : Int → Int → V} {g' : Int → Int → D} (h : OpR X f (rI0 g)) (hg : ∀ i j F A, Dat X.K F A (g' i j) (g i j)) : OpX X f (oII g') := opx_of h fun x y s v w H A B Q R dv dw ⟨i, j, ex, ey, q⟩ => by
  subst ex ey
  cases dv
  cases dw
  exact ⟨i, j, rfl, rfl, q.here R (hg _ _ _ _)⟩
theorem opx_iic {X : Cx} {c : Int → Int → Prop} {g : Int → Int → V} {g' : Int → Int → D} (h : OpR X f (rI c g)) (hg : ∀ i j F A, Dat X.K F A (g' i j) (g i j)) : OpX X f (oIIc c g') := opx_of h fun x y s v w H A B Q R dv dw ⟨i, j, ex, ey, hc, q⟩ => by
  subst ex ey
  cases dv
  cases dw
  exact ⟨i, j, rfl, rfl, hc, q.here R (hg _ _ _ _)⟩
def b2n (k : Bool) : Int := if k = true then 1 else 0
def oBI (g : Int → Int → D) : O2 := fun x y s Q => ∃ k j, x = .bl k ∧ y = .int j ∧ Q (g (b2n k) j) s
def oIB (g : Int → Int → D) : O2 := fun x y s Q => ∃ i k, x = .int i ∧ y = .bl k ∧ Q (g i (b2n k)) s
theorem opr_bi {X : Cx} {g : Int → Int → V} (rule : ∀ (k : Bool) (j : Int) (u : Tok) (pins : List (Addr × Obj)) (s : Shared) (σ : L2.St) (H : Hp) (Q : VK), Inv X pins σ H s → Q (g (b2n k) j) H → wpAny (model X.prog X.w) X.A (f (.bool k) (.int j u)) (EP X pins σ Q) X.xe s) :
    OpR X f (fun x y H Q => ∃ k j, x = .bl k ∧ y = .int j ∧ Q (g (b2n k) j) H) := by
  intro pins s σ H x y v u Q I rx ry h
  obtain ⟨k, j, rfl, rfl, q⟩ := h
  cases rx
  obtain ⟨t, rfl⟩ := ry
  exact rule k j t pins s σ H Q I q
theorem opr_ib {X : Cx} {g : Int → Int → V} (rule : ∀ (i : Int) (t : Tok) (k : Bool) (pins : List (Addr × Obj)) (s : Shared) (σ : L2.St) (H : Hp) (Q : VK), Inv X pins σ H s → Q (g i (b2n k)) H → wpAny (model X.prog X.w) X.A (f (.int i t) (.bool k)) (EP X pins σ Q) X.xe s) :
    OpR X f (fun x y H Q => ∃ i k, x = .int i ∧ y = .bl k ∧ Q (g i (b2n k)) H) := by
  intro pins s σ H x y v u Q I rx ry h
  obtain ⟨i, k, rfl, rfl, q⟩ := h
  obtain ⟨t, rfl⟩ := rx
  cases ry
  exact rule i t k pins s σ H Q I q
theorem opx_bi {X : Cx} {g : Int → Int → V} {g' : Int → Int → D} (h : OpR X f (fun x y H Q => ∃ k j, x = .bl k ∧ y = .int j ∧ Q (g (b2n k) j) H)) (hg : ∀ i j F A, Dat X.K F A (g' i j) (g i j)) : OpX X f (oBI g') := opx_of h fun x y s v w H A B Q R dv dw ⟨i, j, ex, ey, q⟩ => by
  subst ex ey
  cases dv
  cases dw
  exact ⟨i, j, rfl, rfl, q.here R (hg _ _ _ _)⟩
theorem opx_ib {X : Cx} {g : Int → Int → V} {g' : Int → Int → D} (h : OpR X f (fun x y H Q => ∃ i k, x = .int i ∧ y = .bl k ∧ Q (g i (b2n k)) H)) (hg : ∀ i j F A, Dat X.K F A (g' i j) (g i j)) : OpX X f (oIB g') := opx_of h fun x y s v w H A B Q R dv dw ⟨i, j, ex, ey, q⟩ => by
  subst ex ey
  cases dv
  cases dw
  exact ⟨i, j, rfl, rfl, q.here R (hg _ _ _ _)⟩
end
def addF (s : Sto) (x y : D) : Option D :=
  match x, y with
  | .int i, .int j => some (.int (i + j))
  | .bl k, .int j => some (.int (b2n k + j))
  | .int i, .bl k => some (.int (i + b2n k))
  | .str a, .str b => if a.length + b.length ≤ sizeLine then some (.str (a ++ b)) else none
  | .tup xs, .tup ys => if xs.length + ys.length ≤ sizeLine then some (.tup (xs ++ ys)) else none
  | x, y => match seqM s x, seqM s y with
    | some xs, some ys => if xs.length + ys.length ≤ sizeLine then some (.lst (xs ++ ys)) else none
    | _, _ => none
section
theorem opx_add_str {X : Cx} : OpX X (binaryOp .Add) (fun x y s Q => ∃ a b, x = .str a ∧ y = .str b ∧ a.length + b.length ≤ sizeLine ∧ Q (.str (a ++ b)) s) := opx_of op_add_str fun x y s v w H A B Q R dv dw ⟨i, j, ex, ey, hc, q⟩ => by
  subst ex ey
  cases dv
  cases dw
  refine ⟨i, j, rfl, rfl, hc, q.here R (.str _ ?_)⟩
  show (i ++ j).length ≤ sizeLine
  rw [show (i ++ j).length = i.length + j.length from Array.size_append]
  exact hc
theorem opx_add_tup {X : Cx} : OpX X (binaryOp .Add) (fun x y s Q => ∃ a b, x = .tup a ∧ y = .tup b ∧ a.length + b.length ≤ sizeLine ∧ Q (.tup (a ++ b)) s) := opx_of op_catA fun x y s v w H A B Q R dv dw ⟨xs, ys, ex, ey, hc, q⟩ => by
  subst ex ey
  cases dv with
  | tup hs hd =>
    cases dw with
    | tup hs' hd' =>
      refine ⟨_, _, _, _, rfl, rfl, sqT_fz hs, sqT_fz hs', by rw [hd.length, hd'.length]; exact hc, fun e => ?_, fun e e' => ?_, fun _ _ p hp => q.new R hp fun F e f => .tup (.of f) ((hd.append hd').mono e fun _ _ h => h)⟩
      · subst e; cases hd; exact q.here R (.tup hs' hd')
      · subst e'; cases hd'; rw [List.append_nil] at q; exact q.here R (.tup hs hd)
theorem opx_add_lst {X : Cx} : OpX X (binaryOp .Add) (fun x y s Q => ∃ a b, seqM s x = some a ∧ seqM s y = some b ∧ a.length + b.length ≤ sizeLine ∧ Q (.lst (a ++ b)) s) := opx_of op_cat fun x y s v w H A B Q R dv dw ⟨xs, ys, ex, ey, hc, q⟩ => by
  obtain ⟨a, vs, rfl, ha, hd⟩ := of_seqM R dv ex
  obtain ⟨b, ws, rfl, hb, hd'⟩ := of_seqM R dw ey
  exact ⟨a, b, vs, ws, rfl, rfl, ha, hb, by rw [hd.length, hd'.length]; exact hc, fun p hp => q.new R hp fun F e f => .lst f ((hd.append hd').mono e fun _ _ h => h)⟩
theorem opx_add {X : Cx} : OpX X (binaryOp .Add) (oF addF) := by
  have h1 : OpX X (binaryOp .Add) (oII fun i j => .int (i + j)) := opx_ii op_add fun _ _ _ _ => .int _
  have h2 : OpX X (binaryOp .Add) (oBI fun i j => .int (i + j)) := opx_bi (g := fun i j => .int (i + j)) (opr_bi (g := fun i j => .int (i + j)) fun k j u pins s σ H Q I q => PySem.IntBool.add_bool_int ⟨.int (b2n k + j), H, I.tok _, ⟨_, rfl⟩, q⟩) fun _ _ _ _ => .int _
  have h3 : OpX X (binaryOp .Add) (oIB fun i j => .int (i + j)) := opx_ib (g := fun i j => .int (i + j)) (opr_ib (g := fun i j => .int (i + j)) fun i t k pins s σ H Q I q => add_int_bool ⟨.int (i + b2n k), H, I.tok _, ⟨_, rfl⟩, q⟩) fun _ _ _ _ => .int _
  refine ((((h1.or h2).or h3).or opx_add_str).or opx_add_tup |>.or opx_add_lst).imp ?_
  rintro x y s Q ⟨z, e, q⟩
  unfold addF at e
  split at e
  · cases e; exact .inl (.inl (.inl (.inl (.inl ⟨_, _, rfl, rfl, q⟩))))
  · cases e; exact .inl (.inl (.inl (.inl (.inr ⟨_, _, rfl, rfl, q⟩))))
  · cases e; exact .inl (.inl (.inl (.inr ⟨_, _, rfl, rfl, q⟩)))
  · split at e
    · cases e; exact .inl (.inl (.inr ⟨_, _, rfl, rfl, by assumption, q⟩))
    · cases e
  · split at e
    · cases e; exact .inl (.inr ⟨_, _, rfl, rfl, by assumption, q⟩)
    · cases e
  · split at e
    · rename_i h1 h2
      split at e
      · cases e; exact .inr ⟨_, _, h1, h2, by assumption, q⟩
      · cases e
    · cases e
def subF (_ : Sto) (x y : D) : Option D :=
  match x, y with
  | .int i, .int j => some (.int (i - j))
  | .bl k, .int j => some (.int (b2n k - j))
  | .int i, .bl k => some (.int (i - b2n k))
  | _, _ => none
theorem opx_sub {X : Cx} : OpX X (binaryOp .Sub) (oF subF) := by
  have h1 : OpX X (binaryOp .Sub) (oII fun i j => .int (i - j)) := opx_ii op_sub fun _ _ _ _ => .int _
  have h2 : OpX X (binaryOp .Sub) (oBI fun i j => .int (i - j)) := opx_bi (g := fun i j => .int (i - j)) (opr_bi (g := fun i j => .int (i - j)) fun k j u pins s σ H Q I q => PySem.IntBool.sub_bool_int ⟨.int (b2n k - j), H, I.tok _, ⟨_, rfl⟩, q⟩) fun _ _ _ _ => .int _
  have h3 : OpX X (binaryOp .Sub) (oIB fun i j => .int (i - j)) := opx_ib (g := fun i j => .int (i - j)) (opr_ib (g := fun i j => .int (i - j)) fun i t k pins s σ H Q I q => PySem.IntBool.sub_int_bool ⟨.int (i - b2n k), H, I.tok _, ⟨_, rfl⟩, q⟩) fun _ _ _ _ => .int _
  refine ((h1.or h2).or h3).imp ?_
  rintro x y s Q ⟨z, e, q⟩
  unfold subF at e
  split at e
  · cases e; exact .inl (.inl ⟨_, _, rfl, rfl, q⟩)
  · cases e; exact .inl (.inr ⟨_, _, rfl, rfl, q⟩)
  · cases e; exact .inr ⟨_, _, rfl, rfl, q⟩
  · cases e
def MulOk (i j : Int) : Prop := IntMulOk i j
theorem op_mulM {X : Cx} : OpR X (binaryOp .Mult) (rI MulOk fun i j => .int (i * j)) := opI fun _ _ _ _ _ _ _ hc q => mul_int q hc
theorem opx_mul_ii {X : Cx} : OpX X (binaryOp .Mult) (oIIc MulOk fun i j => .int (i * j)) := opx_iic op_mulM fun _ _ _ _ => .int _
theorem opx_mod {X : Cx} : OpX X (binaryOp .Mod) (oIIc (fun _ j => 0 < j) fun i j => .int (i % j)) := opx_iic op_mod fun _ _ _ _ => .int _
def DivOk (_ j : Int) : Prop := 0 < j ∧ j.natAbs.log2 < 9000
theorem op_fdivO {X : Cx} : OpR X (binaryOp .FloorDiv) (rI DivOk fun i j => .int (i / j)) := op_fdivW
theorem opx_fdiv {X : Cx} : OpX X (binaryOp .FloorDiv) (oIIc DivOk fun i j => .int (i / j)) := opx_iic op_fdivO fun _ _ _ _ => .int _
def PowOk (i j : Int) : Prop := 2 ≤ j ∧ ((Builtin.Int.intBits i : Nat) : Int) * j ≤ 134217728
theorem op_powW {X : Cx} : OpR X (binaryOp .Pow) (rI PowOk fun i j => .int (i ^ j.toNat)) := opI fun i j t u s Q E hc q => by
  obtain ⟨h0, h1⟩ := hc
  have b0 : j ≥ 0 := by omega
  have b1 : ¬ (j == 0) = true := by
    intro z
    have := eq_of_beq z
    omega
  by_cases c2 : (i == 0 || i == 1) = true
  · refine AutoIntOps.pow_1 b0 b1 c2 ?_
    have e : i ^ j.toNat = i := by
      rcases Bool.or_eq_true_iff.mp c2 with z | z
      · have := eq_of_beq z
        subst this
        rw [Int.zero_pow]; omega
      · have := eq_of_beq z
        subst this
        exact Int.one_pow
    rw [e] at q
    exact q
  · by_cases c3 : (i == -1) = true
    · refine AutoIntOps.pow_2 b0 b1 c2 c3 ?_
      have := eq_of_beq c3
      subst this
      have e : (-1 : Int) ^ j.toNat = if (j % 2 == 0) = true then 1 else -1 := by
        obtain ⟨n, rfl⟩ : ∃ n : Nat, j = (n : Int) := ⟨j.toNat, by omega⟩
        rw [Int.toNat_natCast]
        have hp : ∀ n : Nat, (-1 : Int) ^ n = if n % 2 = 0 then 1 else -1 := by
          intro n
          induction n with
          | zero => rfl
          | succ n ih =>
            rw [Int.pow_succ, ih]
            by_cases hn : n % 2 = 0
            · rw [if_pos hn, if_neg (by omega)]; rfl
            · rw [if_neg hn, if_pos (by omega)]; rfl
        rw [hp]
        by_cases hn : n % 2 = 0
        · rw [if_pos hn, if_pos (by simp; omega)]
        · rw [if_neg hn, if_neg (by simp; omega)]
      rw [e] at q
      exact q
    · refine AutoIntOps.pow_4 b0 b1 c2 c3 (fun z => ?_) q
      unfold Builtin.Int.intTooBig at z
      have z3 := of_decide_eq_true z
      have e : bitsLine = 134217728 := by decide
      rw [e] at z3
      omega
theorem opx_pow {X : Cx} : OpX X (binaryOp .Pow) (oIIc PowOk fun i j => .int (i ^ j.toNat)) := opx_iic op_powW fun _ _ _ _ => .int _
theorem mono_iic {c : Int → Int → Prop} {g : Int → Int → D} : MonoO (oIIc c g) := fun _ _ _ _ _ f ⟨i, j, e1, e2, h, q⟩ => ⟨i, j, e1, e2, h, f _ _ q⟩
def negF (_ : Sto) (x : D) : Option D :=
  match x with
  | .int i => some (.int (-i))
  | _ => none
theorem pd_neg {X : DX} {a : Expr} {ta : ED} {pos : Pos} (ha : PD X a ta) : PD X (.UnaryOp .USub a pos) (dUn negF ta) := by
  refine ⟨pe_imp (pe_un un_neg ha.pe) fun σ H Q ⟨env, s, A, B, w, h⟩ => rdE_go ha.mono w h fun x s1 v H1 A1 q w1 e1 dv => ?_, mono_un ha.mono⟩
  obtain ⟨z, e, q⟩ := q
  unfold negF at e
  split at e
  · cases e
    cases dv
    exact ⟨_, rfl, q _ _ _ w1.rs e1 (.int _)⟩
  · cases e
def cmpF (p : Int → Int → Bool) (_ : Sto) (x y : D) : Option D :=
  match x, y with
  | .int i, .int j => some (.bl (p i j))
  | _, _ => none
theorem opx_cmp {X : Cx} {op : CmpOp} {p : Int → Int → Bool} (h : OpR X (compareOp op) (rI0 fun i j => .bl (p i j))) : OpX X (compareOp op) (oF (cmpF p)) := by
  have h1 : OpX X (compareOp op) (oII fun i j => .bl (p i j)) := opx_ii h fun _ _ _ _ => .bl _
  refine h1.imp ?_
  rintro x y s Q ⟨z, e, q⟩
  unfold cmpF at e
  split at e
  · cases e; exact ⟨_, _, rfl, rfl, q⟩
  · cases e
abbrev ltF := cmpF fun i j => decide (i < j)
abbrev leF := cmpF fun i j => decide (i ≤ j)
abbrev geF := cmpF fun i j => decide (j ≤ i)
theorem opx_lt {X : Cx} : OpX X (compareOp .Lt) (oF ltF) := opx_cmp op_lt
theorem opx_le {X : Cx} : OpX X (compareOp .LtE) (oF leF) := opx_cmp op_le
theorem opx_ge {X : Cx} : OpX X (compareOp .GtE) (oF geF) := opx_cmp op_ge
end
end Dl
namespace Dl
open PySem PySem.Spec PyProof.Rows L2
def allO (f : D → D → Option Bool) : List D → List D → Option Bool
  | x :: xs, y :: ys => match f x y, allO f xs ys with
    | some a, some b => some (a && b)
    | _, _ => none
  | _, _ => some true
def eqN : Nat → D → D → Option Bool
  | 0 => fun _ _ => none
  | n + 1 => fun x y => match x, y with
    | .non, .non => some true
    | .bl a, .bl b => some (a == b)
    | .bl a, .int j => some (b2n a == j)
    | .int i, .bl b => some (i == b2n b)
    | .int i, .int j => some (i == j)
    | .str a, .str b => some (a == b)
    | .lst xs, .lst ys => if xs.length = ys.length then allO (eqN n) xs ys else some false
    | .tup xs, .tup ys => match allO (eqN n) xs ys with
      | some b => some (b && decide (xs.length = ys.length))
      | none => none
    | .non, .bl _ => some false
    | .non, .int _ => some false
    | .non, .str _ => some false
    | .non, .lst _ => some false
    | .non, .tup _ => some false
    | .bl _, .non => some false
    | .bl _, .str _ => some false
    | .bl _, .lst _ => some false
    | .bl _, .tup _ => some false
    | .int _, .non => some false
    | .int _, .str _ => some false
    | .int _, .lst _ => some false
    | .int _, .tup _ => some false
    | .str _, .non => some false
    | .str _, .bl _ => some false
    | .str _, .int _ => some false
    | .str _, .lst _ => some false
    | .str _, .tup _ => some false
    | .lst _, .non => some false
    | .lst _, .bl _ => some false
    | .lst _, .int _ => some false
    | .lst _, .str _ => some false
    | .lst _, .tup _ => some false
    | .tup _, .non => some false
    | .tup _, .bl _ => some false
    | .tup _, .int _ => some false
    | .tup _, .str _ => some false
    | .tup _, .lst _ => some false
    | _, _ => none
section
variable {X : Cx} {pins : List (Addr × Obj)} {σ : L2.St} {H F : Hp} {A0 : List Addr} {s : Shared}
theorem isList_of (I : Inv X pins σ H s) {a : Addr} {vs : List V} (h : SqL X.K H a vs) : ∃ its : List Value, Vals vs its ∧ s.heap.IsList a its.toArray := by
  obtain ⟨its, r, pl, _⟩ := I.list h
  exact ⟨its, r, pl.isList⟩
theorem isTup_of (I : Inv X pins σ H s) {a : Addr} {vs : List V} (h : SqT X.K H a vs) : ∃ its : List Value, Vals vs its ∧ s.heap.IsTuple a its.toArray := by
  obtain ⟨its, r, pl, _⟩ := I.tuple h
  exact ⟨its, r, pl⟩
theorem lt_excl (I : Inv X pins σ H s) {a : Addr} {vs ws : List V} (h : SqL X.K H a vs) (h' : SqT X.K H a ws) : False := by
  obtain ⟨_, _, l⟩ := isList_of I h
  obtain ⟨_, _, t⟩ := isTup_of I h'
  exact SeqAt.ne_of_list_tuple l t rfl
theorem klist_excl (I : Inv X pins σ H s) {a : Addr} {o : Obj} {u : HO} (h : X.K.lookup a = some o) (h' : H a = some u) : False := by
  have := (I.bs a o (I.mod.kin a o h)).2
  rw [h'] at this; cases this
mutual
def pureD : D → Bool
  | .tup xs => pureL xs
  | .lst xs => pureL xs
  | .frl xs => pureL xs
  | .dk _ xs => pureL xs
  | .dt _ xs => pureL xs
  | .ref _ => false
  | .exc _ _ _ => false
  | _ => true
def pureL : List D → Bool
  | [] => true
  | x :: xs => pureD x && pureL xs
end
inductive AtA (K : PySem.W.Frag) (F : Hp) (A : List Addr) (a : Addr) : D → Prop
  | tup {vs : List V} {ds : List D} : SqT K F a vs → DatL K F A ds vs → AtA K F A a (.tup ds)
  | lst {vs : List V} {ds : List D} : F a = some (.lst vs) → DatL K F A ds vs → AtA K F A a (.lst ds)
  | frl {vs : List V} {ds : List D} : SqF K F a vs → DatL K F A ds vs → AtA K F A a (.frl ds)
  | dk {kvs : List (Key × V)} {ds : List D} : F a = some (.dK kvs) → DatL K F A ds (kvs.map (·.2)) → AtA K F A a (.dk (kvs.map (·.1)) ds)
  | dt {kvs : List (List Key × V)} {ds : List D} : F a = some (.dT kvs) → DatL K F A ds (kvs.map (·.2)) → AtA K F A a (.dt (kvs.map (·.1)) ds)
theorem atA_of {K : PySem.W.Frag} {F : Hp} {A : List Addr} {a : Addr} {x : D} (h : Dat K F A x (.ref a)) (p : pureD x = true) : AtA K F A a x := by
  cases h with
  | tup h1 h2 => exact .tup h1.q h2
  | lst h1 h2 => exact .lst h1 h2
  | frl h1 h2 => exact .frl h1 h2
  | dk h1 h2 => exact .dk h1 h2
  | dt h1 h2 => exact .dt h1 h2
  | ref h1 => cases p
  | exc h1 h2 => cases p
theorem AtA.two (I : Inv X pins σ H s) (hF : Same F H) {a : Addr} {x y : D} (h : AtA X.K F A0 a x) (g : AtA X.K F A0 a y) :
    (∃ xs ys vs, x = .tup xs ∧ y = .tup ys ∧ DatL X.K F A0 xs vs ∧ DatL X.K F A0 ys vs) ∨ (∃ xs ys vs, x = .lst xs ∧ y = .lst ys ∧ DatL X.K F A0 xs vs ∧ DatL X.K F A0 ys vs) ∨
    (∃ xs ys vs, x = .frl xs ∧ y = .frl ys ∧ DatL X.K F A0 xs vs ∧ DatL X.K F A0 ys vs) ∨ (∃ ks xs ys vs, x = .dk ks xs ∧ y = .dk ks ys ∧ DatL X.K F A0 xs vs ∧ DatL X.K F A0 ys vs) ∨
    (∃ ks xs ys vs, x = .dt ks xs ∧ y = .dt ks ys ∧ DatL X.K F A0 xs vs ∧ DatL X.K F A0 ys vs) := by
  have tupx : ∀ {vs : List V} {u : HO}, SqT X.K F a vs → F a = some u → (∀ zs, u ≠ .tup zs) → (∀ o zs, u ≠ .frz o (.tup zs)) → False := fun {vs u} t e n1 n2 => by
    rcases t with (t | ⟨o, t⟩) | ⟨o, its, n, t, _⟩
    · rw [e] at t; cases t; exact n1 _ rfl
    · rw [e] at t; cases t; exact n2 _ _ rfl
    · exact klist_excl I t (hF _ _ e)
  have frlx : ∀ {vs : List V} {u : HO}, SqF X.K F a vs → F a = some u → (∀ o zs, u ≠ .frz o (.lst zs)) → False := fun {vs u} t e n2 => by
    rcases t with ⟨o, t⟩ | ⟨o, its, n, t, _⟩
    · rw [e] at t; cases t; exact n2 _ _ rfl
    · exact klist_excl I t (hF _ _ e)
  cases h with
  | tup h1 h2 =>
    cases g with
    | tup g1 g2 =>
      have := I.tuple_inj (sqT_same hF h1) (sqT_same hF g1)
      subst this
      exact .inl ⟨_, _, _, rfl, rfl, h2, g2⟩
    | lst g1 g2 => exact (tupx h1 g1 (fun _ z => nomatch z) (fun _ _ z => nomatch z)).elim
    | frl g1 g2 => exact (lt_excl I (hF.seq g1.seq) (sqT_same hF h1)).elim
    | dk g1 g2 => exact (tupx h1 g1 (fun _ z => nomatch z) (fun _ _ z => nomatch z)).elim
    | dt g1 g2 => exact (tupx h1 g1 (fun _ z => nomatch z) (fun _ _ z => nomatch z)).elim
  | lst h1 h2 =>
    cases g with
    | tup g1 g2 => exact (tupx g1 h1 (fun _ z => nomatch z) (fun _ _ z => nomatch z)).elim
    | lst g1 g2 => rw [h1] at g1; cases g1; exact .inr (.inl ⟨_, _, _, rfl, rfl, h2, g2⟩)
    | frl g1 g2 => exact (frlx g1 h1 (fun _ _ z => nomatch z)).elim
    | dk g1 g2 => rw [h1] at g1; cases g1
    | dt g1 g2 => rw [h1] at g1; cases g1
  | frl h1 h2 =>
    cases g with
    | tup g1 g2 => exact (lt_excl I (hF.seq h1.seq) (sqT_same hF g1)).elim
    | lst g1 g2 => exact (frlx h1 g1 (fun _ _ z => nomatch z)).elim
    | frl g1 g2 =>
      have := I.list_inj (hF.seq h1.seq) (hF.seq g1.seq)
      subst this
      exact .inr (.inr (.inl ⟨_, _, _, rfl, rfl, h2, g2⟩))
    | dk g1 g2 => exact (frlx h1 g1 (fun _ _ z => nomatch z)).elim
    | dt g1 g2 => exact (frlx h1 g1 (fun _ _ z => nomatch z)).elim
  | dk h1 h2 =>
    cases g with
    | tup g1 g2 => exact (tupx g1 h1 (fun _ z => nomatch z) (fun _ _ z => nomatch z)).elim
    | lst g1 g2 => rw [h1] at g1; cases g1
    | frl g1 g2 => exact (frlx g1 h1 (fun _ _ z => nomatch z)).elim
    | dk g1 g2 => rw [h1] at g1; cases g1; exact .inr (.inr (.inr (.inl ⟨_, _, _, _, rfl, rfl, h2, g2⟩)))
    | dt g1 g2 => rw [h1] at g1; cases g1
  | dt h1 h2 =>
    cases g with
    | tup g1 g2 => exact (tupx g1 h1 (fun _ z => nomatch z) (fun _ _ z => nomatch z)).elim
    | lst g1 g2 => rw [h1] at g1; cases g1
    | frl g1 g2 => exact (frlx g1 h1 (fun _ _ z => nomatch z)).elim
    | dk g1 g2 => rw [h1] at g1; cases g1
    | dt g1 g2 => rw [h1] at g1; cases g1; exact .inr (.inr (.inr (.inr ⟨_, _, _, _, rfl, rfl, h2, g2⟩)))
mutual
theorem Dat.inj (I : Inv X pins σ H s) (hF : Same F H) : ∀ (x y : D) (v : V), pureD x = true → pureD y = true → Dat X.K F A0 x v → Dat X.K F A0 y v → x = y
  | .non, _, _, _, p, h, g => by cases h; cases g; rfl
  | .bl _, _, _, _, p, h, g => by cases h; cases g; rfl
  | .int _, _, _, _, p, h, g => by cases h; cases g; rfl
  | .str _, _, _, _, p, h, g => by cases h; cases g; rfl
  | .ref _, _, _, p, _, h, g => by cases p
  | .exc _ _ _, _, _, p, _, h, g => by cases p
  | .tup xs, y, v, p, q, h, g => by
    obtain ⟨a, rfl⟩ : ∃ a, v = .ref a := by cases h; exact ⟨_, rfl⟩
    rcases AtA.two I hF (atA_of h p) (atA_of g q) with ⟨xs', ys, vs, e1, e2, d1, d2⟩ | ⟨xs', ys, vs, e1, e2, d1, d2⟩ | ⟨xs', ys, vs, e1, e2, d1, d2⟩ | ⟨ks, xs', ys, vs, e1, e2, d1, d2⟩ | ⟨ks, xs', ys, vs, e1, e2, d1, d2⟩ <;> cases e1
    subst e2
    rw [DatL.inj I hF xs ys vs p q d1 d2]
  | .lst xs, y, v, p, q, h, g => by
    obtain ⟨a, rfl⟩ : ∃ a, v = .ref a := by cases h; exact ⟨_, rfl⟩
    rcases AtA.two I hF (atA_of h p) (atA_of g q) with ⟨xs', ys, vs, e1, e2, d1, d2⟩ | ⟨xs', ys, vs, e1, e2, d1, d2⟩ | ⟨xs', ys, vs, e1, e2, d1, d2⟩ | ⟨ks, xs', ys, vs, e1, e2, d1, d2⟩ | ⟨ks, xs', ys, vs, e1, e2, d1, d2⟩ <;> cases e1
    subst e2
    rw [DatL.inj I hF xs ys vs p q d1 d2]
  | .frl xs, y, v, p, q, h, g => by
    obtain ⟨a, rfl⟩ : ∃ a, v = .ref a := by cases h; exact ⟨_, rfl⟩
    rcases AtA.two I hF (atA_of h p) (atA_of g q) with ⟨xs', ys, vs, e1, e2, d1, d2⟩ | ⟨xs', ys, vs, e1, e2, d1, d2⟩ | ⟨xs', ys, vs, e1, e2, d1, d2⟩ | ⟨ks, xs', ys, vs, e1, e2, d1, d2⟩ | ⟨ks, xs', ys, vs, e1, e2, d1, d2⟩ <;> cases e1
    subst e2
    rw [DatL.inj I hF xs ys vs p q d1 d2]
  | .dk ks0 xs, y, v, p, q, h, g => by
    obtain ⟨a, rfl⟩ : ∃ a, v = .ref a := by cases h; exact ⟨_, rfl⟩
    rcases AtA.two I hF (atA_of h p) (atA_of g q) with ⟨xs', ys, vs, e1, e2, d1, d2⟩ | ⟨xs', ys, vs, e1, e2, d1, d2⟩ | ⟨xs', ys, vs, e1, e2, d1, d2⟩ | ⟨ks, xs', ys, vs, e1, e2, d1, d2⟩ | ⟨ks, xs', ys, vs, e1, e2, d1, d2⟩ <;> cases e1
    subst e2
    rw [DatL.inj I hF xs ys vs p q d1 d2]
  | .dt ks0 xs, y, v, p, q, h, g => by
    obtain ⟨a, rfl⟩ : ∃ a, v = .ref a := by cases h; exact ⟨_, rfl⟩
    rcases AtA.two I hF (atA_of h p) (atA_of g q) with ⟨xs', ys, vs, e1, e2, d1, d2⟩ | ⟨xs', ys, vs, e1, e2, d1, d2⟩ | ⟨xs', ys, vs, e1, e2, d1, d2⟩ | ⟨ks, xs', ys, vs, e1, e2, d1, d2⟩ | ⟨ks, xs', ys, vs, e1, e2, d1, d2⟩ <;> cases e1
    subst e2
    rw [DatL.inj I hF xs ys vs p q d1 d2]
theorem DatL.inj (I : Inv X pins σ H s) (hF : Same F H) : ∀ (xs ys : List D) (vs : List V), pureL xs = true → pureL ys = true → DatL X.K F A0 xs vs → DatL X.K F A0 ys vs → xs = ys
  | [], _, _, _, _, h, g => by cases h; cases g; rfl
  | x :: xs, _, _, p, q, h, g => by
    cases h with
    | cons h1 h2 =>
      cases g with
      | cons g1 g2 =>
        have p' := Bool.and_eq_true_iff.mp p
        have q' := Bool.and_eq_true_iff.mp q
        rw [Dat.inj I hF x _ _ p'.1 q'.1 h1 g1, DatL.inj I hF xs _ _ p'.2 q'.2 h2 g2]
end
theorem allO_true {f : D → D → Option Bool} : ∀ {xs ys : List D} {vs : List V} {b : Bool}, (∀ x y v b, Dat X.K F A0 x v → Dat X.K F A0 y v → f x y = some b → b = true) → DatL X.K F A0 xs vs → DatL X.K F A0 ys vs → allO f xs ys = some b → b = true
  | [], _, _, _, _, h, g, e => by cases e; rfl
  | x :: xs, [], _, _, _, h, g, e => by cases e; rfl
  | x :: xs, y :: ys, _, b, hf, h, g, e => by
    cases h with
    | cons h1 h2 =>
      cases g with
      | cons g1 g2 =>
        unfold allO at e
        split at e
        · rename_i p q ep eq
          cases e
          rw [hf _ _ _ _ h1 g1 ep, allO_true hf h2 g2 eq]; rfl
        · cases e
theorem eqN_same (I : Inv X pins σ H s) (hF : Same F H) : ∀ (n : Nat) (x y : D) (v : V) (b : Bool), Dat X.K F A0 x v → Dat X.K F A0 y v → eqN n x y = some b → b = true
  | 0, _, _, _, _, _, _, e => by cases e
  | n + 1, x, y, v, b, h, g, e => by
    have ih := eqN_same I hF n
    cases h with
    | non => cases g; cases e; rfl
    | bl _ => cases g; cases e; simp
    | int _ => cases g; cases e; simp
    | str _ _ => cases g; cases e; simp
    | tup h1 h2 =>
      cases g with
      | tup g1 g2 =>
        have := I.tuple_inj (by first | exact .of (hF _ _ h1) | exact sqT_same hF (h1).q) (by first | exact .of (hF _ _ g1) | exact sqT_same hF (g1).q)
        subst this
        have hl : ∀ {xs ys : List D} {vs : List V}, DatL X.K F A0 xs vs → DatL X.K F A0 ys vs → xs.length = ys.length := fun a b => by rw [← a.length, ← b.length]
        unfold eqN at e
        simp only at e
        split at e
        · rename_i c ec
          cases e
          rw [allO_true ih h2 g2 ec, decide_eq_true (hl h2 g2)]; rfl
        · cases e
      | lst g1 g2 => exact (lt_excl I (by first | exact .of (hF _ _ g1) | exact sqT_same hF (g1).q) (by first | exact .of (hF _ _ h1) | exact sqT_same hF (h1).q)).elim
      | frl _ _ => cases e
      | dk _ _ => cases e
      | dt _ _ => cases e
      | ref _ => cases e
      | exc _ _ => cases e
    | lst h1 h2 =>
      cases g with
      | tup g1 g2 => exact (lt_excl I (by first | exact .of (hF _ _ h1) | exact sqT_same hF (h1).q) (by first | exact .of (hF _ _ g1) | exact sqT_same hF (g1).q)).elim
      | lst g1 g2 =>
        rw [h1] at g1; cases g1
        unfold eqN at e
        simp only at e
        split at e
        · exact allO_true ih h2 g2 e
        · rename_i hne
          exact absurd (by rw [← h2.length, ← g2.length]) hne
      | frl _ _ => cases e
      | dk _ _ => cases e
      | dt _ _ => cases e
      | ref _ => cases e
      | exc _ _ => cases e
    | frl _ _ => cases e
    | dk _ _ => cases e
    | dt _ _ => cases e
    | ref _ => cases e
    | exc _ _ => cases e
theorem allO_get {f : D → D → Option Bool} : ∀ {xs ys : List D} {b : Bool}, allO f xs ys = some b → ∀ (j : Nat) (x y : D), xs[j]? = some x → ys[j]? = some y → ∃ c, f x y = some c
  | [], _, _, _, j, x, y, h, _ => by simp at h
  | _ :: _, [], _, _, j, x, y, _, h => by simp at h
  | x0 :: xs, y0 :: ys, b, e, j, x, y, hx, hy => by
    unfold allO at e
    split at e
    · rename_i p q ep eq
      cases j with
      | zero => simp at hx hy; subst hx hy; exact ⟨_, ep⟩
      | succ j => exact allO_get eq j x y (by simpa using hx) (by simpa using hy)
    · cases e
def pairB (f : D → D → Option Bool) (xs ys : List D) (j : Nat) : Bool := match xs[j]?, ys[j]? with
  | some x, some y => (f x y).getD true
  | _, _ => true
theorem allO_range {f : D → D → Option Bool} : ∀ {xs ys : List D} {b : Bool}, allO f xs ys = some b → (List.range (min xs.length ys.length)).all (pairB f xs ys) = b
  | [], _, _, e => by cases e; simp
  | _ :: _, [], _, e => by cases e; simp
  | x0 :: xs, y0 :: ys, b, e => by
    unfold allO at e
    split at e
    · rename_i p q ep eq
      cases e
      have ih := allO_range eq
      rw [show min (x0 :: xs).length (y0 :: ys).length = min xs.length ys.length + 1 by simp only [List.length_cons]; omega, List.range_succ_eq_map, List.all_cons, List.all_map]
      have h0 : pairB f (x0 :: xs) (y0 :: ys) 0 = p := by unfold pairB; simp [ep]
      have h1 : (pairB f (x0 :: xs) (y0 :: ys) ∘ Nat.succ) = pairB f xs ys := by funext j; unfold pairB; simp
      rw [h0, h1, ih]
    · cases e
theorem pairB_some {f : D → D → Option Bool} {xs ys : List D} {j : Nat} {x y : D} {c : Bool} (hx : xs[j]? = some x) (hy : ys[j]? = some y) (e : f x y = some c) : pairB f xs ys j = c := by
  unfold pairB; rw [hx, hy]; show (f x y).getD true = c; rw [e]; rfl
theorem vals_at {vs : List V} {its : List Value} (r : Vals vs its) {j : Nat} (h : j < its.toArray.size) : ∃ v, vs[j]? = some v ∧ RelV v its.toArray[j] := by
  have hl : j < its.length := by simpa using h
  have hv : j < vs.length := by rw [r.length]; exact hl
  obtain ⟨u, h1, h2⟩ := r.get (List.getElem?_eq_getElem hv)
  rw [List.getElem?_eq_getElem hl] at h1
  have e : its[j] = u := Option.some.inj h1
  exact ⟨_, List.getElem?_eq_getElem hv, by simpa [e] using h2⟩
theorem sz_of {K : PySem.W.Frag} {xs : List D} {vs : List V} {us : List Value} (d : DatL K F A0 xs vs) (r : Vals vs us) : us.toArray.size = xs.length := by rw [List.size_toArray, ← r.length, d.length]
theorem items_eq {f : D → D → Option Bool} {A : Around} (ih : ∀ x y v w u t b, Dat X.K F A0 x v → Dat X.K F A0 y w → RelV v u → RelV w t → f x y = some b → SeqAt.EqAt A s u t b) {xs ys : List D} {vs ws : List V} {us ts : List Value} {b : Bool} (dx : DatL X.K F A0 xs vs) (dy : DatL X.K F A0 ys ws) (ru : Vals vs us) (rt : Vals ws ts)
    (e : allO f xs ys = some b) : ∀ j (h1 : j < us.toArray.size) (h2 : j < ts.toArray.size), SeqAt.EqAt A s us.toArray[j] ts.toArray[j] (pairB f xs ys j) := by
  intro j h1 h2
  obtain ⟨v, hv, rv⟩ := vals_at ru h1
  obtain ⟨w, hw, rw'⟩ := vals_at rt h2
  obtain ⟨x, hx, dx'⟩ := dx.get' hv
  obtain ⟨y, hy, dy'⟩ := dy.get' hw
  obtain ⟨c, ec⟩ := allO_get e j x y hx hy
  rw [pairB_some hx hy ec]
  exact ih _ _ _ _ _ _ _ dx' dy' rv rw' ec
theorem eqAtD (I : Inv X pins σ H s) (hF : Same F H) : ∀ (n : Nat) (A : Around), A.units + n < cLine → ∀ (x y : D) (v w : V) (u t : Value) (b : Bool), Dat X.K F A0 x v → Dat X.K F A0 y w → RelV v u → RelV w t → eqN n x y = some b → SeqAt.EqAt A s u t b
  | 0, _, _, _, _, _, _, _, _, _, _, _, _, _, e => by cases e
  | n + 1, A, hA, x, y, v, w, u, t, b, dx, dy, rv, rw', e => by
    have hu : A.units < cLine := by omega
    have ih := eqAtD I hF n A.in1 (by show A.units + 1 + n < cLine; omega)
    cases dx with
    | non =>
      cases rv
      cases dy with
      | non => cases rw'; cases e; exact .same _
      | bl _ => cases rw'; cases e; exact .none_bool _
      | int _ => obtain ⟨_, rfl⟩ := rw'; cases e; exact .none_int _ _
      | str _ _ => obtain ⟨_, rfl⟩ := rw'; cases e; exact .none_str _ _
      | tup h1 _ => cases rw'; cases e; obtain ⟨_, _, l⟩ := isTup_of I (by first | exact .of (hF _ _ h1) | exact sqT_same hF (h1).q); exact .none_tuple l hu
      | lst h1 _ => cases rw'; cases e; obtain ⟨_, _, l⟩ := isList_of I (by first | exact .of (hF _ _ h1) | exact sqT_same hF (h1).q); exact .none_list l hu
      | frl _ _ => cases e
      | dk _ _ => cases e
      | dt _ _ => cases e
      | ref _ => cases e
      | exc _ _ => cases e
    | bl _ =>
      cases rv
      cases dy with
      | non => cases rw'; cases e; exact .bool_none _
      | bl _ => cases rw'; cases e; exact .bool_bool _ _
      | int _ => obtain ⟨_, rfl⟩ := rw'; cases e; exact .bool_int _ _ _
      | str _ _ => obtain ⟨_, rfl⟩ := rw'; cases e; exact .bool_str _ _ _
      | tup h1 _ => cases rw'; cases e; obtain ⟨_, _, l⟩ := isTup_of I (by first | exact .of (hF _ _ h1) | exact sqT_same hF (h1).q); exact .bool_tuple _ l hu
      | lst h1 _ => cases rw'; cases e; obtain ⟨_, _, l⟩ := isList_of I (by first | exact .of (hF _ _ h1) | exact sqT_same hF (h1).q); exact .bool_list _ l hu
      | frl _ _ => cases e
      | dk _ _ => cases e
      | dt _ _ => cases e
      | ref _ => cases e
      | exc _ _ => cases e
    | int _ =>
      obtain ⟨_, rfl⟩ := rv
      cases dy with
      | non => cases rw'; cases e; exact .int_none _ _
      | bl _ => cases rw'; cases e; exact .int_bool _ _ _
      | int _ => obtain ⟨_, rfl⟩ := rw'; cases e; exact .int_int _ _ _ _
      | str _ _ => obtain ⟨_, rfl⟩ := rw'; cases e; exact .int_str _ _ _ _
      | tup h1 _ => cases rw'; cases e; obtain ⟨_, _, l⟩ := isTup_of I (by first | exact .of (hF _ _ h1) | exact sqT_same hF (h1).q); exact .int_tuple _ _ l hu
      | lst h1 _ => cases rw'; cases e; obtain ⟨_, _, l⟩ := isList_of I (by first | exact .of (hF _ _ h1) | exact sqT_same hF (h1).q); exact .int_list _ _ l hu
      | frl _ _ => cases e
      | dk _ _ => cases e
      | dt _ _ => cases e
      | ref _ => cases e
      | exc _ _ => cases e
    | str _ _ =>
      obtain ⟨_, rfl⟩ := rv
      cases dy with
      | non => cases rw'; cases e; exact .str_none _ _
      | bl _ => cases rw'; cases e; exact .str_bool _ _ _
      | int _ => obtain ⟨_, rfl⟩ := rw'; cases e; exact .str_int _ _ _ _
      | str _ _ => obtain ⟨_, rfl⟩ := rw'; cases e; exact .str_str _ _ _ _
      | tup h1 _ => cases rw'; cases e; obtain ⟨_, _, l⟩ := isTup_of I (by first | exact .of (hF _ _ h1) | exact sqT_same hF (h1).q); exact .str_tuple _ _ l hu
      | lst h1 _ => cases rw'; cases e; obtain ⟨_, _, l⟩ := isList_of I (by first | exact .of (hF _ _ h1) | exact sqT_same hF (h1).q); exact .str_list _ _ l hu
      | frl _ _ => cases e
      | dk _ _ => cases e
      | dt _ _ => cases e
      | ref _ => cases e
      | exc _ _ => cases e
    | tup h1 h2 =>
      cases rv
      obtain ⟨us, ru, l⟩ := isTup_of I (by first | exact .of (hF _ _ h1) | exact sqT_same hF (h1).q)
      cases dy with
      | non => cases rw'; cases e; exact .tuple_none l hu
      | bl _ => cases rw'; cases e; exact .tuple_bool _ l hu
      | int _ => obtain ⟨_, rfl⟩ := rw'; cases e; exact .tuple_int _ _ l hu
      | str _ _ => obtain ⟨_, rfl⟩ := rw'; cases e; exact .tuple_str _ _ l hu
      | tup g1 g2 =>
        cases rw'
        obtain ⟨ts, rt, l2⟩ := isTup_of I (by first | exact .of (hF _ _ g1) | exact sqT_same hF (g1).q)
        rename_i a _ _ a' _ _
        by_cases ea : a = a'
        · subst ea
          have hb := eqN_same I hF (n + 1) _ _ _ _ (.tup h1 h2) (.tup g1 g2) e
          rw [hb]; exact .same _
        · refine .of_refs ea ?_
          unfold eqN at e
          simp only at e
          split at e
          · rename_i c ec
            have hr := SeqAt.RcAt.tuples l l2 hu (items_eq ih h2 g2 ru rt ec)
            have el := sz_of h2 ru
            have el2 := sz_of g2 rt
            rw [el, el2, allO_range ec] at hr
            cases e
            have e3 : ∀ (p q : Nat), (p == q) = decide (p = q) := fun p q => by by_cases z : p = q <;> simp [z]
            rw [e3] at hr
            exact hr
          · cases e
      | lst g1 _ => cases rw'; cases e; obtain ⟨_, _, l2⟩ := isList_of I (by first | exact .of (hF _ _ g1) | exact sqT_same hF (g1).q); exact .tuple_list l l2 hu
      | frl _ _ => cases e
      | dk _ _ => cases e
      | dt _ _ => cases e
      | ref _ => cases e
      | exc _ _ => cases e
    | lst h1 h2 =>
      cases rv
      obtain ⟨us, ru, l⟩ := isList_of I (by first | exact .of (hF _ _ h1) | exact sqT_same hF (h1).q)
      cases dy with
      | non => cases rw'; cases e; exact .list_none l hu
      | bl _ => cases rw'; cases e; exact .list_bool _ l hu
      | int _ => obtain ⟨_, rfl⟩ := rw'; cases e; exact .list_int _ _ l hu
      | str _ _ => obtain ⟨_, rfl⟩ := rw'; cases e; exact .list_str _ _ l hu
      | tup g1 _ => cases rw'; cases e; obtain ⟨_, _, l2⟩ := isTup_of I (by first | exact .of (hF _ _ g1) | exact sqT_same hF (g1).q); exact .list_tuple l l2 hu
      | lst g1 g2 =>
        cases rw'
        obtain ⟨ts, rt, l2⟩ := isList_of I (by first | exact .of (hF _ _ g1) | exact sqT_same hF (g1).q)
        rename_i a _ _ a' _ _
        by_cases ea : a = a'
        · subst ea
          have hb := eqN_same I hF (n + 1) _ _ _ _ (.lst h1 h2) (.lst g1 g2) e
          rw [hb]; exact .same _
        · refine .of_refs ea ?_
          have el := sz_of h2 ru
          have el2 := sz_of g2 rt
          unfold eqN at e
          simp only at e
          split at e
          · rename_i hl
            have hr := SeqAt.RcAt.lists l l2 (by rw [el, el2, hl]) hu (items_eq ih h2 g2 ru rt e)
            have := allO_range e
            rw [hl, Nat.min_self] at this
            rw [el, hl, this] at hr
            exact hr
          · rename_i hl
            cases e
            exact SeqAt.RcAt.lists_lengths l l2 (by rw [el, el2]; simpa using hl) hu
      | frl _ _ => cases e
      | dk _ _ => cases e
      | dt _ _ => cases e
      | ref _ => cases e
      | exc _ _ => cases e
    | frl _ _ => cases e
    | dk _ _ => cases e
    | dt _ _ => cases e
    | ref _ => cases e
    | exc _ _ => cases e
inductive Op (K : PySem.W.Frag) (F H : Hp) (A : List Addr) : D → V → Prop
  | dat {x : D} {v : V} : Dat K F A x v → Op K F H A x v
  | lst {a : Addr} {vs : List V} {ds : List D} : H a = some (.lst vs) → DatL K F A ds vs → Op K F H A (.lst ds) (.ref a)
theorem Op.two {K : PySem.W.Frag} {A : List Addr} {x : D} {v : V} (hF : Same F H) (h : Op K F H A x v) : (∃ ds a vs, x = .lst ds ∧ v = .ref a ∧ H a = some (.lst vs) ∧ DatL K F A ds vs) ∨ ((∀ ds, x ≠ .lst ds) ∧ Dat K F A x v) := by
  cases h with
  | lst h1 h2 => exact .inl ⟨_, _, _, rfl, rfl, h1, h2⟩
  | dat h =>
    cases h with
    | exc h1 h2 => exact .inr ⟨(fun _ z => nomatch z), .exc h1 h2⟩
    | lst h1 h2 => exact .inl ⟨_, _, _, rfl, rfl, hF _ _ h1, h2⟩
    | non => exact .inr ⟨(fun _ z => nomatch z), .non⟩
    | bl _ => exact .inr ⟨(fun _ z => nomatch z), .bl _⟩
    | int _ => exact .inr ⟨(fun _ z => nomatch z), .int _⟩
    | str _ h => exact .inr ⟨(fun _ z => nomatch z), .str _ h⟩
    | tup h1 h2 => exact .inr ⟨(fun _ z => nomatch z), .tup h1 h2⟩
    | frl h1 h2 => exact .inr ⟨(fun _ z => nomatch z), .frl h1 h2⟩
    | dk h1 h2 => exact .inr ⟨(fun _ z => nomatch z), .dk h1 h2⟩
    | dt h1 h2 => exact .inr ⟨(fun _ z => nomatch z), .dt h1 h2⟩
    | ref h1 => exact .inr ⟨(fun _ z => nomatch z), .ref h1⟩
def Rc2 (A : Around) (s : Shared) (u t : Value) (b : Bool) : Prop := SeqAt.RcAt A s u t b ∧ SeqAt.RcNeAt A s u t (!b)
theorem rcD (I : Inv X pins σ H s) (hF : Same F H) (n : Nat) (A : Around) (hA : A.units + (n + 1) < cLine) (x y : D) (v w : V) (u t : Value) (b : Bool) (ox : Op X.K F H A0 x v) (oy : Op X.K F H A0 y w) (rv : RelV v u) (rw' : RelV w t) (e : eqN (n + 1) x y = some b) : Rc2 A s u t b := by
  have hu : A.units < cLine := by omega
  have ih := eqAtD I hF (A0 := A0) n A.in1 (by show A.units + 1 + n < cLine; omega)
  rcases ox.two hF with ⟨xs, a, vs, rfl, rfl, h1, h2⟩ | ⟨nx, dx⟩
  · cases rv
    obtain ⟨us, ru, l⟩ := isList_of I (.of h1)
    rcases oy.two hF with ⟨ys, a', ws, rfl, rfl, g1, g2⟩ | ⟨ny, dy⟩
    · cases rw'
      obtain ⟨ts, rt, l2⟩ := isList_of I (.of g1)
      have el := sz_of h2 ru
      have el2 := sz_of g2 rt
      unfold eqN at e
      simp only at e
      split at e
      · rename_i hl
        have it := items_eq ih h2 g2 ru rt e
        have hr := SeqAt.RcAt.lists l l2 (by rw [el, el2, hl]) hu it
        have hr2 := SeqAt.RcNeAt.lists l l2 (by rw [el, el2, hl]) hu it
        have := allO_range e
        rw [hl, Nat.min_self] at this
        rw [el, hl, this] at hr hr2
        exact ⟨hr, hr2⟩
      · rename_i hl
        cases e
        exact ⟨SeqAt.RcAt.lists_lengths l l2 (by rw [el, el2]; simpa using hl) hu, SeqAt.RcNeAt.lists_lengths l l2 (by rw [el, el2]; simpa using hl) hu⟩
    · cases dy with
      | non => cases rw'; cases e; exact ⟨.list_none l hu, .list_none l hu⟩
      | bl _ => cases rw'; cases e; exact ⟨.list_bool _ l hu, .list_bool _ l hu⟩
      | int _ => obtain ⟨_, rfl⟩ := rw'; cases e; exact ⟨.list_int _ _ l hu, .list_int _ _ l hu⟩
      | str _ _ => obtain ⟨_, rfl⟩ := rw'; cases e; exact ⟨.list_str _ _ l hu, .list_str _ _ l hu⟩
      | tup g1 _ => cases rw'; cases e; obtain ⟨_, _, l2⟩ := isTup_of I (by first | exact .of (hF _ _ g1) | exact sqT_same hF (g1).q); exact ⟨.list_tuple l l2 hu, .list_tuple l l2 hu⟩
      | lst _ _ => exact absurd rfl (ny _)
      | frl _ _ => cases e
      | dk _ _ => cases e
      | dt _ _ => cases e
      | ref _ => cases e
      | exc _ _ => cases e
  · rcases oy.two hF with ⟨ys, a', ws, rfl, rfl, g1, g2⟩ | ⟨ny, dy⟩
    · cases rw'
      obtain ⟨ts, rt, l2⟩ := isList_of I (.of g1)
      cases dx with
      | non => cases rv; cases e; exact ⟨.none_list l2 hu, .none_list l2 hu⟩
      | bl _ => cases rv; cases e; exact ⟨.bool_list _ l2 hu, .bool_list _ l2 hu⟩
      | int _ => obtain ⟨_, rfl⟩ := rv; cases e; exact ⟨.int_list _ _ l2 hu, .int_list _ _ l2 hu⟩
      | str _ _ => obtain ⟨_, rfl⟩ := rv; cases e; exact ⟨.str_list _ _ l2 hu, .str_list _ _ l2 hu⟩
      | tup h1 _ => cases rv; cases e; obtain ⟨_, _, l⟩ := isTup_of I (by first | exact .of (hF _ _ h1) | exact sqT_same hF (h1).q); exact ⟨.tuple_list l l2 hu, .tuple_list l l2 hu⟩
      | lst _ _ => exact absurd rfl (nx _)
      | frl _ _ => cases e
      | dk _ _ => cases e
      | dt _ _ => cases e
      | ref _ => cases e
      | exc _ _ => cases e
    · cases dx with
      | non =>
        cases rv
        cases dy with
        | non => cases rw'; cases e; exact ⟨.none_none, .none_none⟩
        | bl _ => cases rw'; cases e; exact ⟨.none_bool _, .none_bool _⟩
        | int _ => obtain ⟨_, rfl⟩ := rw'; cases e; exact ⟨.none_int _ _, .none_int _ _⟩
        | str _ _ => obtain ⟨_, rfl⟩ := rw'; cases e; exact ⟨.none_str _ _, .none_str _ _⟩
        | tup h1 _ => cases rw'; cases e; obtain ⟨_, _, l⟩ := isTup_of I (by first | exact .of (hF _ _ h1) | exact sqT_same hF (h1).q); exact ⟨.none_tuple l hu, .none_tuple l hu⟩
        | lst _ _ => exact absurd rfl (ny _)
        | frl _ _ => cases e
        | dk _ _ => cases e
        | dt _ _ => cases e
        | ref _ => cases e
        | exc _ _ => cases e
      | bl _ =>
        cases rv
        cases dy with
        | non => cases rw'; cases e; exact ⟨.bool_none _, .bool_none _⟩
        | bl _ => cases rw'; cases e; exact ⟨.bool_bool _ _, .bool_bool _ _⟩
        | int _ => obtain ⟨_, rfl⟩ := rw'; cases e; exact ⟨.bool_int _ _ _, .bool_int _ _ _⟩
        | str _ _ => obtain ⟨_, rfl⟩ := rw'; cases e; exact ⟨.bool_str _ _ _, .bool_str _ _ _⟩
        | tup h1 _ => cases rw'; cases e; obtain ⟨_, _, l⟩ := isTup_of I (by first | exact .of (hF _ _ h1) | exact sqT_same hF (h1).q); exact ⟨.bool_tuple _ l hu, .bool_tuple _ l hu⟩
        | lst _ _ => exact absurd rfl (ny _)
        | frl _ _ => cases e
        | dk _ _ => cases e
        | dt _ _ => cases e
        | ref _ => cases e
        | exc _ _ => cases e
      | int _ =>
        obtain ⟨_, rfl⟩ := rv
        cases dy with
        | non => cases rw'; cases e; exact ⟨.int_none _ _, .int_none _ _⟩
        | bl _ => cases rw'; cases e; exact ⟨.int_bool _ _ _, .int_bool _ _ _⟩
        | int _ => obtain ⟨_, rfl⟩ := rw'; cases e; exact ⟨.int_int _ _ _ _, .int_int _ _ _ _⟩
        | str _ _ => obtain ⟨_, rfl⟩ := rw'; cases e; exact ⟨.int_str _ _ _ _, .int_str _ _ _ _⟩
        | tup h1 _ => cases rw'; cases e; obtain ⟨_, _, l⟩ := isTup_of I (by first | exact .of (hF _ _ h1) | exact sqT_same hF (h1).q); exact ⟨.int_tuple _ _ l hu, .int_tuple _ _ l hu⟩
        | lst _ _ => exact absurd rfl (ny _)
        | frl _ _ => cases e
        | dk _ _ => cases e
        | dt _ _ => cases e
        | ref _ => cases e
        | exc _ _ => cases e
      | str _ _ =>
        obtain ⟨_, rfl⟩ := rv
        cases dy with
        | non => cases rw'; cases e; exact ⟨.str_none _ _, .str_none _ _⟩
        | bl _ => cases rw'; cases e; exact ⟨.str_bool _ _ _, .str_bool _ _ _⟩
        | int _ => obtain ⟨_, rfl⟩ := rw'; cases e; exact ⟨.str_int _ _ _ _, .str_int _ _ _ _⟩
        | str _ _ => obtain ⟨_, rfl⟩ := rw'; cases e; exact ⟨.str_str _ _ _ _, .str_str _ _ _ _⟩
        | tup h1 _ => cases rw'; cases e; obtain ⟨_, _, l⟩ := isTup_of I (by first | exact .of (hF _ _ h1) | exact sqT_same hF (h1).q); exact ⟨.str_tuple _ _ l hu, .str_tuple _ _ l hu⟩
        | lst _ _ => exact absurd rfl (ny _)
        | frl _ _ => cases e
        | dk _ _ => cases e
        | dt _ _ => cases e
        | ref _ => cases e
        | exc _ _ => cases e
      | tup h1 h2 =>
        cases rv
        obtain ⟨us, ru, l⟩ := isTup_of I (by first | exact .of (hF _ _ h1) | exact sqT_same hF (h1).q)
        cases dy with
        | non => cases rw'; cases e; exact ⟨.tuple_none l hu, .tuple_none l hu⟩
        | bl _ => cases rw'; cases e; exact ⟨.tuple_bool _ l hu, .tuple_bool _ l hu⟩
        | int _ => obtain ⟨_, rfl⟩ := rw'; cases e; exact ⟨.tuple_int _ _ l hu, .tuple_int _ _ l hu⟩
        | str _ _ => obtain ⟨_, rfl⟩ := rw'; cases e; exact ⟨.tuple_str _ _ l hu, .tuple_str _ _ l hu⟩
        | tup g1 g2 =>
          cases rw'
          obtain ⟨ts, rt, l2⟩ := isTup_of I (by first | exact .of (hF _ _ g1) | exact sqT_same hF (g1).q)
          unfold eqN at e
          simp only at e
          split at e
          · rename_i c ec
            have it := items_eq ih h2 g2 ru rt ec
            have hr := SeqAt.RcAt.tuples l l2 hu it
            have hr2 := SeqAt.RcNeAt.tuples l l2 hu it
            have el := sz_of h2 ru
            have el2 := sz_of g2 rt
            rw [el, el2, allO_range ec] at hr hr2
            cases e
            have e3 : ∀ (p q : Nat), (p == q) = decide (p = q) := fun p q => by by_cases z : p = q <;> simp [z]
            rw [e3] at hr hr2
            exact ⟨hr, hr2⟩
          · cases e
        | lst _ _ => exact absurd rfl (ny _)
        | frl _ _ => cases e
        | dk _ _ => cases e
        | dt _ _ => cases e
        | ref _ => cases e
        | exc _ _ => cases e
      | lst _ _ => exact absurd rfl (nx _)
      | frl _ _ => cases e
      | dk _ _ => cases e
      | dt _ _ => cases e
      | ref _ => cases e
      | exc _ _ => cases e
end
end Dl
namespace Dl
open PySem PySem.Spec PyProof.Rows L2
def drf (s : Sto) : D → D
  | .ref l => match s[l]? with
    | some (some (.lst ds)) => .lst ds
    | _ => .ref l
  | x => x
theorem drf_ref {s : Sto} {l : Nat} {ds : List D} (h : s[l]? = some (some (.lst ds))) : drf s (.ref l) = .lst ds := by
  show (match s[l]? with | some (some (.lst ds)) => D.lst ds | _ => .ref l) = .lst ds
  rw [h]
theorem op_of {K : PySem.W.Frag} {B : List Addr} {H : Hp} {A : List Addr} {s : Sto} {x : D} {v : V} (R : RepS K B H A s) (dv : Dat K (Fz B H A s) A x v) : Op K (Fz B H A s) H A (drf s x) v := by
  by_cases e : ∃ l ds, x = .ref l ∧ s[l]? = some (some (.lst ds))
  · obtain ⟨l, ds, rfl, h⟩ := e
    rw [drf_ref h]
    obtain ⟨a, vs, rfl, h1, h2⟩ := of_seqM R dv (seqM_ref h)
    exact .lst h1 h2
  · have : drf s x = x := by
      cases x with
      | ref l =>
        show (match s[l]? with | some (some (.lst ds)) => D.lst ds | _ => .ref l) = .ref l
        split
        · rename_i ds h; exact absurd ⟨l, ds, rfl, h⟩ e
        · rfl
      | _ => rfl
    rw [this]
    exact .dat dv
section
variable {X : Cx}
def rEqN (K : PySem.W.Frag) (g : Bool → Bool) : R2 := fun x y H Q => ∃ (F : Hp) (A0 : List Addr) (dx dy : D) (b : Bool), Same F H ∧ Op K F H A0 dx x ∧ Op K F H A0 dy y ∧ eqN 60 dx dy = some b ∧ Q (.bl (g b)) H
theorem op_eqN (hu : X.A.units + 64 < cLine) : OpR X (compareOp .Eq) (rEqN X.K id) := by
  intro pins s σ H x y v u Q I rx ry h
  obtain ⟨F, A0, dx, dy, b, hF, ox, oy, e, q⟩ := h
  exact (rcD I hF 59 X.A (by omega) dx dy x y v u b ox oy rx ry e).1 _ _ _ _ ⟨.bl b, H, I, rfl, q⟩
theorem op_neN (hu : X.A.units + 64 < cLine) : OpR X (compareOp .NotEq) (rEqN X.K Bool.not) := by
  intro pins s σ H x y v u Q I rx ry h
  obtain ⟨F, A0, dx, dy, b, hF, ox, oy, e, q⟩ := h
  exact (rcD I hF 59 X.A (by omega) dx dy x y v u b ox oy rx ry e).2 _ _ _ _ ⟨.bl (!b), H, I, rfl, q⟩
def eqF (s : Sto) (x y : D) : Option D := (eqN 60 (drf s x) (drf s y)).map fun b => .bl b
def neF (s : Sto) (x y : D) : Option D := (eqN 60 (drf s x) (drf s y)).map fun b => .bl (!b)
theorem opx_eq (hu : X.A.units + 64 < cLine) : OpX X (compareOp .Eq) (oF eqF) := opx_of (op_eqN hu) fun x y s v w H A B Q R dv dw ⟨z, e, q⟩ => by
  unfold eqF at e
  cases h : eqN 60 (drf s x) (drf s y) with
  | none => rw [h] at e; cases e
  | some b =>
    rw [h] at e
    cases e
    exact ⟨_, _, _, _, b, fz_same, op_of R dv, op_of R dw, h, q.here R (.bl _)⟩
theorem opx_ne (hu : X.A.units + 64 < cLine) : OpX X (compareOp .NotEq) (oF neF) := opx_of (op_neN hu) fun x y s v w H A B Q R dv dw ⟨z, e, q⟩ => by
  unfold neF at e
  cases h : eqN 60 (drf s x) (drf s y) with
  | none => rw [h] at e; cases e
  | some b =>
    rw [h] at e
    cases e
    exact ⟨_, _, _, _, b, fz_same, op_of R dv, op_of R dw, h, q.here R (.bl _)⟩
theorem any_e {I : Prop} {ds : List D} {its : List Value} {e : Value → Bool} {f : D → Bool} (h1 : ∀ w ∈ its, e w = true → ∃ d ∈ ds, f d = true) (h2 : ∀ d ∈ ds, f d = true → ∃ w ∈ its, e w = true) : its.any e = ds.any f := by
  cases h : ds.any f with
  | true =>
    obtain ⟨d, hd, fd⟩ := List.any_eq_true.mp h
    obtain ⟨w, hw, ew⟩ := h2 d hd fd
    exact List.any_eq_true.mpr ⟨w, hw, ew⟩
  | false =>
    cases g : its.any e with
    | false => rfl
    | true =>
      obtain ⟨w, hw, ew⟩ := List.any_eq_true.mp g
      obtain ⟨d, hd, fd⟩ := h1 w hw ew
      have : ds.any f = true := List.any_eq_true.mpr ⟨d, hd, fd⟩
      rw [h] at this; cases this
theorem pureL_mem : ∀ {ds : List D} {d : D}, pureL ds = true → d ∈ ds → pureD d = true
  | x :: xs, d, p, h => by
    have p' := Bool.and_eq_true_iff.mp p
    rcases List.mem_cons.mp h with rfl | h
    · exact p'.1
    · exact pureL_mem p'.2 h
def inAny (ds : List D) (x : D) : Bool := ds.any fun d => (eqN 59 d x).getD false
def InOk (ds : List D) (x : D) : Prop := pureL ds = true ∧ ∀ d ∈ ds, ∃ b, eqN 59 d x = some b
def rInN (K : PySem.W.Frag) (g : Bool → Bool) : R2 := fun x y H Q => ∃ (F : Hp) (A0 : List Addr) (p : Addr) (vs : List V) (ds : List D) (dx : D), Same F H ∧ y = .ref p ∧ (SqL K H p vs ∨ SqT K H p vs) ∧ DatL K F A0 ds vs ∧ Dat K F A0 dx x ∧ InOk ds dx ∧ Q (.bl (g (inAny ds dx))) H
open Classical in
theorem inN_core {pins : List (Addr × Obj)} {s : Shared} {σ : L2.St} {H : Hp} (hu : X.A.units + 64 < cLine) (I : Inv X pins σ H s) {x : V} {v : Value} {F : Hp} {A0 : List Addr} {vs : List V} {ds : List D} {dx : D} {its : List Value} (hF : Same F H) (rx : RelV x v) (r : Vals vs its) (hd : DatL X.K F A0 ds vs) (hx : Dat X.K F A0 dx x) (ok : InOk ds dx) :
    ∃ e : Value → Bool, (∀ y, y ∈ its.toArray → SeqAt.EqAt X.A.in1 s y v (e y)) ∧ its.toArray.any e = inAny ds dx := by
  have key : ∀ i (u : Value), its[i]? = some u → ∃ d z, ds[i]? = some d ∧ Dat X.K F A0 d z ∧ RelV z u := fun i u h => by
    have hl : i < vs.length := by rw [r.length]; exact (List.getElem?_eq_some_iff.mp h).1
    obtain ⟨u', h1, h2⟩ := r.get (List.getElem?_eq_getElem hl)
    rw [h] at h1; cases h1
    obtain ⟨d, h3, h4⟩ := hd.get' (List.getElem?_eq_getElem hl)
    exact ⟨d, _, h3, h4, h2⟩
  let e : Value → Bool := fun u => decide (∃ d z, d ∈ ds ∧ Dat X.K F A0 d z ∧ RelV z u ∧ eqN 59 d dx = some true)
  refine ⟨e, fun y hy => ?_, ?_⟩
  · have hy' : y ∈ its := by simpa using hy
    obtain ⟨i, hi⟩ := List.getElem?_of_mem hy'
    obtain ⟨d, z, h1, h2, h3⟩ := key i y hi
    have hm := List.mem_of_getElem? h1
    obtain ⟨b, hb⟩ := ok.2 d hm
    have ans := eqAtD I hF 59 X.A.in1 (by show X.A.units + 1 + 59 < cLine; omega) d dx z x y v b h2 hx h3 rx hb
    have eb : e y = b := by
      cases b with
      | true => exact decide_eq_true ⟨d, z, hm, h2, h3, hb⟩
      | false =>
        refine decide_eq_false fun ⟨d', z', hm', h2', h3', hb'⟩ => ?_
        have ez := h3.inj h3'
        subst ez
        have := Dat.inj I hF d d' z (pureL_mem ok.1 hm) (pureL_mem ok.1 hm') h2 h2'
        subst this
        rw [hb] at hb'; cases hb'
    rw [eb]
    exact ans
  · show its.toArray.any e = _
    rw [show its.toArray.any e = its.any e by simp]
    refine any_e (I := True) (fun u hu he => ?_) fun d hm hf => ?_
    · obtain ⟨d, z, hm, _, _, hb⟩ := of_decide_eq_true he
      exact ⟨d, hm, by rw [hb]; rfl⟩
    · obtain ⟨i, hi⟩ := List.getElem?_of_mem hm
      obtain ⟨z, h1, h2⟩ := hd.get hi
      obtain ⟨u, h3, h4⟩ := r.get h1
      refine ⟨u, List.mem_of_getElem? h3, decide_eq_true ⟨d, z, hm, h2, h4, ?_⟩⟩
      obtain ⟨b, hb⟩ := ok.2 d hm
      rw [hb] at hf ⊢
      simpa using hf
theorem op_inN (hu : X.A.units + 64 < cLine) : OpR X (compareOp .In) (rInN X.K id) := by
  intro pins s σ H x y v u Q I rx ry h
  obtain ⟨F, A0, p, vs, ds, dx, hF, rfl, hq, hd, hx, ok, q⟩ := h
  cases ry
  rcases hq with hq | hq
  · obtain ⟨its, r, l⟩ := isList_of I hq
    obtain ⟨e, h1, h2⟩ := inN_core hu I hF rx r hd hx ok
    exact SeqAt.in_listAt e l h1 ⟨.bl _, H, I, by rw [h2]; rfl, q⟩
  · obtain ⟨its, r, l⟩ := isTup_of I hq
    obtain ⟨e, h1, h2⟩ := inN_core hu I hF rx r hd hx ok
    exact SeqAt.in_tupleAt e l h1 ⟨.bl _, H, I, by rw [h2]; rfl, q⟩
theorem op_notInN (hu : X.A.units + 64 < cLine) : OpR X (compareOp .NotIn) (rInN X.K Bool.not) := by
  intro pins s σ H x y v u Q I rx ry h
  obtain ⟨F, A0, p, vs, ds, dx, hF, rfl, hq, hd, hx, ok, q⟩ := h
  cases ry
  rcases hq with hq | hq
  · obtain ⟨its, r, l⟩ := isList_of I hq
    obtain ⟨e, h1, h2⟩ := inN_core hu I hF rx r hd hx ok
    exact SeqAt.notIn_listAt e l h1 ⟨.bl _, H, I, by rw [h2]; rfl, q⟩
  · obtain ⟨its, r, l⟩ := isTup_of I hq
    obtain ⟨e, h1, h2⟩ := inN_core hu I hF rx r hd hx ok
    exact SeqAt.notIn_tupleAt e l h1 ⟨.bl _, H, I, by rw [h2]; rfl, q⟩
def oIn (g : Bool → Bool) : O2 := fun x y s Q => ∃ ds, (seqL s y = some ds ∨ seqT y = some ds) ∧ InOk ds x ∧ Q (.bl (g (inAny ds x))) s
theorem mono_oIn {g : Bool → Bool} : MonoO (oIn g) := fun _ _ _ _ _ f ⟨ds, e, h, q⟩ => ⟨ds, e, h, f _ _ q⟩
theorem oIn_rd {g : Bool → Bool} (x y : D) (s : Sto) (v w : V) (H : Hp) (A B : List Addr) (Q : VK) (R : RepS X.K B H A s) (dv : Dat X.K (Fz B H A s) A x v) (dw : Dat X.K (Fz B H A s) A y w) (h : oIn g x y s (PostE X.K B H A s Q)) : rInN X.K g v w H Q := by
  obtain ⟨ds, e, ok, q⟩ := h
  rcases e with e | e
  · obtain ⟨a, vs, rfl, h1, h2⟩ := of_seqL R dw e
    exact ⟨_, _, a, vs, ds, x, fz_same, rfl, .inl h1, h2, dv, ok, q.here R (.bl _)⟩
  · obtain ⟨a, vs, rfl, h1, h2⟩ := of_seqT dw e
    exact ⟨_, _, a, vs, ds, x, fz_same, rfl, .inr h1, h2, dv, ok, q.here R (.bl _)⟩
theorem opx_in (hu : X.A.units + 64 < cLine) : OpX X (compareOp .In) (oIn id) := opx_of (op_inN hu) oIn_rd
theorem opx_notIn (hu : X.A.units + 64 < cLine) : OpX X (compareOp .NotIn) (oIn Bool.not) := opx_of (op_notInN hu) oIn_rd
def oInS (g : Bool → Bool) : O2 := fun x y s Q => ∃ (c : Nat) (z : Str), x = .str ⟨#[c]⟩ ∧ y = .str z ∧ Q (.bl (g (decide (c ∈ z.cps.toList)))) s
theorem mono_oInS {g : Bool → Bool} : MonoO (oInS g) := fun _ _ _ _ _ f ⟨c, z, e, h, q⟩ => ⟨c, z, e, h, f _ _ q⟩
theorem opx_inS : OpX X (compareOp .In) (oInS id) := opx_of op_in_sign fun x y s v w H A B Q R dv dw ⟨c, z, ex, ey, q⟩ => by
  subst ex ey
  cases dv
  cases dw
  exact ⟨c, z, rfl, rfl, q.here R (.bl _)⟩
theorem opx_notInS : OpX X (compareOp .NotIn) (oInS Bool.not) := opx_of op_notIn_sign fun x y s v w H A B Q R dv dw ⟨c, z, ex, ey, q⟩ => by
  subst ex ey
  cases dv
  cases dw
  exact ⟨c, z, rfl, rfl, q.here R (.bl _)⟩
def oOr (o o' : O2) : O2 := fun x y s Q => o x y s Q ∨ o' x y s Q
theorem mono_oOr {o o' : O2} (m : MonoO o) (m' : MonoO o') : MonoO (oOr o o') := fun _ _ _ _ _ f h => h.elim (fun h => .inl (m _ _ _ _ _ f h)) fun h => .inr (m' _ _ _ _ _ f h)
theorem opx_inA (hu : X.A.units + 64 < cLine) : OpX X (compareOp .In) (oOr (oInS id) (oIn id)) := opx_inS.or (opx_in hu)
theorem opx_notInA (hu : X.A.units + 64 < cLine) : OpX X (compareOp .NotIn) (oOr (oInS Bool.not) (oIn Bool.not)) := opx_notInS.or (opx_notIn hu)
end
end Dl
namespace Dl
open PySem PySem.Spec PyProof.Rows L2
def tyName (s : Sto) : D → Option String
  | .non => some "NoneType"
  | .bl _ => some "bool"
  | .int _ => some "int"
  | .str _ => some "str"
  | .tup _ => some "tuple"
  | .lst _ => some "list"
  | .frl _ => none
  | .exc _ _ _ => none
  | .dk _ _ => some "dict"
  | .dt _ _ => some "dict"
  | .ref l => match s[l]? with
    | some (some (.lst _)) => some "list"
    | some (some (.dk _ _)) => some "dict"
    | some (some (.dt _ _)) => some "dict"
    | some (some (.fdk _ _)) => some "dict"
    | _ => none
theorem tyx_tup {K : PySem.W.Frag} {H : Hp} {a : Addr} {vs : List V} (h : SqT K H a vs) : TyX K H (.ref a) (.type "tuple") := by
  rcases h with (h | ⟨o, h⟩) | ⟨o, its, n, h1, h2, h3, h4⟩
  · exact .base (.tup h)
  · exact .fTuple h
  · exact .kTuple h1 h2
theorem tyx_of {K : PySem.W.Frag} {B : List Addr} {H : Hp} {A : List Addr} {s : Sto} {x : D} {v : V} {n : String} (R : RepS K B H A s) (dv : Dat K (Fz B H A s) A x v) (h : tyName s x = some n) : TyX K H v (.type n) := by
  cases dv with
  | non => cases h; exact .base .non
  | bl _ => cases h; exact .base (.bl _)
  | int _ => cases h; exact .base (.int _)
  | str _ _ => cases h; exact .base (.str _)
  | tup h1 _ =>
    cases h
    exact tyx_tup (sqT_fz h1)
  | lst h1 _ => cases h; exact .base (.lst (fz_of h1).1)
  | frl _ _ => cases h
  | exc _ _ => cases h
  | dk h1 _ => cases h; exact .base (.dK (fz_of h1).1)
  | dt h1 _ => cases h; exact .base (.dT (fz_of h1).1)
  | @ref l a hA =>
    cases hs : s[l]? with
    | none => unfold tyName at h; simp only [hs] at h; cases h
    | some o =>
      cases o with
      | none => unfold tyName at h; simp only [hs] at h; cases h
      | some mo =>
        obtain ⟨a', ha', ob⟩ := R.ob l mo hs
        rw [hA] at ha'; cases ha'
        cases mo with
        | lst ds => unfold tyName at h; simp only [hs] at h; cases h; obtain ⟨vs, e, _⟩ := ob; exact .base (.lst e)
        | dk ks ds => unfold tyName at h; simp only [hs] at h; cases h; obtain ⟨vs, e, _⟩ := ob; exact .base (.dK e)
        | dt ks ds => unfold tyName at h; simp only [hs] at h; cases h; obtain ⟨vs, e, _⟩ := ob; exact .base (.dT e)
        | ins C fs => unfold tyName at h; simp only [hs] at h; cases h
        | fdk ks ds => unfold tyName at h; simp only [hs] at h; cases h; obtain ⟨o, vs, e, _⟩ := ob; exact .fDict e
        | fdt ks ds => unfold tyName at h; simp only [hs] at h; cases h
def isSub (a T : String) : Bool := a == T || (a == "bool" && T == "int")
theorem kit_of_names {K : PySem.W.Frag} {a T : String} (ha : a ∈ ["NoneType", "bool", "int", "str", "tuple", "list", "dict"]) (hT : T ∈ ["bool", "int", "str", "tuple", "list", "dict"]) : PySem.W.kitOne K (.type a) (.type T) = some (isSub a T) := by
  simp only [List.mem_cons, List.not_mem_nil, or_false] at ha hT
  rcases ha with rfl | rfl | rfl | rfl | rfl | rfl | rfl <;> rcases hT with rfl | rfl | rfl | rfl | rfl | rfl <;> exact kit_ty (by decide +kernel)
theorem tyName_mem {s : Sto} {x : D} {n : String} (h : tyName s x = some n) : n ∈ ["NoneType", "bool", "int", "str", "tuple", "list", "dict"] := by
  unfold tyName at h
  split at h <;> first | (cases h; decide) | cases h | skip
  split at h <;> first | (cases h; decide) | cases h
def isiF (T : String) (s : Sto) (x : D) : Option D := (tyName s x).map fun a => .bl (isSub a T)
section
variable {pos p : Pos} {e : Expr} {te : ED}
theorem pd_isi {X : DX} {T : Str} {n : String} {pT : Pos} (hg : Gl X "isinstance") (hm : X.mg "isinstance" = none) (hgT : Gl X T) (hmT : X.mg T = none) (hv : bootBuiltins T = some (.type n)) (hT : n ∈ ["bool", "int", "str", "tuple", "list", "dict"]) (he : PD X e te)
    (hn : T ≠ "__name__" := by decide) (hd : (T == ("__debug__" : Str)) = false := by decide)
    (h1 : starEach [e, .Name T pT] X.env = (false, eval e X.env) :: starEach [.Name T pT] X.env := by rfl) (h2 : starEach [.Name T pT] X.env = (false, eval (.Name T pT) X.env) :: starEach [] X.env := by rfl) (hpl : (backTo pos (starEach [.Name T pT] X.env)).any (·.1) = false := by rfl) :
    PD X (.Call (.Name "isinstance" p) [e, .Name T pT] [] pos) (dUn (isiF n) te) := by
  have hty : PE X (.Name T pT) (tC (.ty n)) := pe_bltn hgT hmT hv (show RelV (.ty n) (Value.type n) from rfl) hn hd
  refine ⟨pe_imp (pe_callB call_isi hg hm (show bootBuiltins "isinstance" = some (.builtin "isinstance") by decide +kernel) (pa_cons he.pe (pa_cons hty pa_nil h2) h1) (he := h1) (hpl := hpl)) fun σ H Q ⟨env, s, A, B, w, h⟩ => ?_, mono_un he.mono⟩
  refine rdE_go he.mono w h fun x s1 v H1 A1 q w1 e1 dv => ?_
  obtain ⟨z, ez, q⟩ := q
  unfold isiF at ez
  cases ht : tyName s1 x with
  | none => rw [ht] at ez; cases ez
  | some a =>
    rw [ht] at ez
    cases ez
    exact ⟨v, .ty n, .type a, .type n, isSub a n, rfl, .ty _, tyx_of w1.rs dv ht, kit_of_names (tyName_mem ht) hT, q _ _ _ w1.rs e1 (.bl _)⟩
def CallX (X : Cx) (F : Value) (f : Sto → List D → Option D) : Prop := ∃ r, CallR X F r ∧ ∀ (xs : List D) (s : Sto) (vs : List V) (H : Hp) (A B : List Addr) (Q : VK) (z : D), RepS X.K B H A s → DatL X.K (Fz B H A s) A xs vs → f s xs = some z → PostE X.K B H A s Q z s → r vs H Q
def dCB (f : Sto → List D → Option D) (t : AD) : ED := fun env s Q => t env s fun xs s1 => ∃ z, f s1 xs = some z ∧ Q z s1
theorem mono_CB {f : Sto → List D → Option D} {t : AD} (m : Mono t) : Mono (dCB f t) := fun _ _ _ _ g h => m _ _ _ _ (fun _ _ ⟨z, e, q⟩ => ⟨z, e, g _ _ q⟩) h
theorem cb_rd {X : DX} {F : Value} {f : Sto → List D → Option D} {t : AD} {r : List V → Hp → VK → Prop} (mt : Mono t) (l : ∀ (xs : List D) (s : Sto) (vs : List V) (H : Hp) (A B : List Addr) (Q : VK) (z : D), RepS X.K B H A s → DatL X.K (Fz B H A s) A xs vs → f s xs = some z → PostE X.K B H A s Q z s → r vs H Q) (σ : L2.St) (H : Hp) (Q : VK) (h : rdE X.kk (dCB f t) σ H Q) : tCB r (rdA X.kk t) σ H Q := by
  obtain ⟨env, s, A, B, w, h⟩ := h
  exact rdA_go mt w h fun xs s1 vs H1 A1 ⟨z, ez, q⟩ w1 e1 dv => l xs s1 vs H1 A1 B Q z w1.rs dv ez (PostE.from e1 q)
theorem pd_callB {X : DX} {x : Str} {id : String} {f : Sto → List D → Option D} {es : List Expr} {t : AD} (hc : CallX X (.builtin id) f) (hg : Gl X x) (hm : X.mg x = none) (hv : bootBuiltins x = some (.builtin id)) (ha : PAD X (e :: es) t) (hn : x ≠ "__name__" := by decide) (hdb : (x == ("__debug__" : Str)) = false := by decide)
    (he : starEach (e :: es) X.env = (false, eval e X.env) :: starEach es X.env := by rfl) (hpl : (backTo pos (starEach es X.env)).any (·.1) = false := by rfl) : PD X (.Call (.Name x p) (e :: es) [] pos) (dCB f t) := by
  obtain ⟨r, h1, h2⟩ := hc
  exact ⟨pe_imp (pe_callB h1 hg hm hv ha.pa hn hdb he hpl) (cb_rd (F := .builtin id) ha.mono h2), mono_CB ha.mono⟩
theorem pd_callTy {X : DX} {x : Str} {T : String} {f : Sto → List D → Option D} {es : List Expr} {t : AD} (hc : CallX X (.type T) f) (hg : Gl X x) (hm : X.mg x = none) (hv : bootBuiltins x = some (.type T)) (ha : PAD X (e :: es) t) (hn : x ≠ "__name__" := by decide) (hdb : (x == ("__debug__" : Str)) = false := by decide)
    (he : starEach (e :: es) X.env = (false, eval e X.env) :: starEach es X.env := by rfl) (hpl : (backTo pos (starEach es X.env)).any (·.1) = false := by rfl) : PD X (.Call (.Name x p) (e :: es) [] pos) (dCB f t) := by
  obtain ⟨r, h1, h2⟩ := hc
  exact ⟨pe_imp (pe_callTy h1 hg hm hv ha.pa hn hdb he hpl) (cb_rd (F := .type T) ha.mono h2), mono_CB ha.mono⟩
def lenF (s : Sto) : List D → Option D
  | [.str z] => some (.int z.length)
  | [.tup xs] => some (.int xs.length)
  | [.dk ks _] => some (.int ks.length)
  | [.dt ks _] => some (.int ks.length)
  | [x] => (seqL s x).map fun xs => .int xs.length
  | _ => none
theorem callx_len {X : Cx} : CallX X (.builtin "len") lenF := by
  refine ⟨_, ((call_len.or call_lenD).or call_len_dT), fun xs s vs H A B Q z R dv e q => ?_⟩
  cases dv with
  | nil => cases e
  | cons d1 d2 =>
    rename_i d ds v vs
    cases d2 with
    | cons _ _ => cases d <;> cases e
    | nil =>
      cases d1 with
      | str y hy => cases e; exact .inl (.inl ⟨_, _, rfl, ⟨hy, rfl⟩, q.here R (.int _)⟩)
      | tup h1 h2 =>
        cases e
        refine .inl (.inl ⟨_, _, rfl, .inr ⟨_, sqT_fz h1, rfl⟩, ?_⟩)
        rw [h2.length]
        exact q.here R (.int _)
      | dk h1 h2 =>
        cases e
        refine .inl (.inr ⟨_, _, rfl, (fz_of h1).1, ?_⟩)
        have := q.here R (.int _)
        simpa using this
      | dt h1 h2 =>
        cases e
        refine .inr ⟨_, _, rfl, (fz_of h1).1, ?_⟩
        have := q.here R (.int _)
        simpa using this
      | non => cases e
      | bl _ => cases e
      | int _ => cases e
      | exc _ _ => cases e
      | lst h1 h2 =>
        cases e
        refine .inl (.inl ⟨_, _, rfl, .inl ⟨_, .of (fz_of h1).1, rfl⟩, ?_⟩)
        rw [h2.length]
        exact q.here R (.int _)
      | frl h1 h2 =>
        cases e
        refine .inl (.inl ⟨_, _, rfl, .inl ⟨_, sqL_fz h1.seq, rfl⟩, ?_⟩)
        rw [h2.length]
        exact q.here R (.int _)
      | @ref l a hA =>
        have e' : (seqL s (.ref l)).map (fun xs => D.int xs.length) = some z := e
        cases hs : seqL s (.ref l) with
        | none => rw [hs] at e'; cases e'
        | some ds =>
          rw [hs] at e'
          cases e'
          obtain ⟨a', vs, ea, h1, h2⟩ := of_seqL R (.ref hA) hs
          cases ea
          refine .inl (.inl ⟨_, _, rfl, .inl ⟨_, h1, rfl⟩, ?_⟩)
          rw [h2.length]
          exact q.here R (.int _)
def blsOf : List D → Option (List Bool)
  | [] => some []
  | .bl b :: r => (blsOf r).map (b :: ·)
  | _ => none
theorem blsOf_eq : ∀ {ds : List D} {bs : List Bool}, blsOf ds = some bs → ds = bs.map .bl
  | [], _, h => by cases h; rfl
  | .bl b :: r, _, h => by
    unfold blsOf at h
    cases hr : blsOf r with
    | none => rw [hr] at h; cases h
    | some l => rw [hr] at h; cases h; rw [blsOf_eq hr]; rfl
  | .non :: _, _, h => by cases h
  | .int _ :: _, _, h => by cases h
  | .str _ :: _, _, h => by cases h
  | .tup _ :: _, _, h => by cases h
  | .lst _ :: _, _, h => by cases h
  | .frl _ :: _, _, h => by cases h
  | .dk _ _ :: _, _, h => by cases h
  | .dt _ _ :: _, _, h => by cases h
  | .ref _ :: _, _, h => by cases h
  | .exc _ _ _ :: _, _, h => by cases h
@[simp] theorem blsOf_map (bs : List Bool) : blsOf (bs.map D.bl) = some bs := by
  induction bs with
  | nil => rfl
  | cons b bs ih => simp [blsOf, ih]
def allF (s : Sto) : List D → Option D
  | [x] => match seqL s x with
    | some ds => (blsOf ds).map fun bs => .bl (bs.all id)
    | none => none
  | _ => none
theorem one_of {K : PySem.W.Frag} {F : Hp} {A : List Addr} {x : D} {vs : List V} (h : DatL K F A [x] vs) : ∃ v, vs = [v] ∧ Dat K F A x v := by
  cases h with
  | cons h1 h2 => cases h2; exact ⟨_, rfl, h1⟩
theorem two_of {K : PySem.W.Frag} {F : Hp} {A : List Addr} {x y : D} {vs : List V} (h : DatL K F A [x, y] vs) : ∃ v w, vs = [v, w] ∧ Dat K F A x v ∧ Dat K F A y w := by
  cases h with
  | cons h1 h2 =>
    obtain ⟨w, rfl, h3⟩ := one_of h2
    exact ⟨_, _, rfl, h1, h3⟩
theorem callx_all {X : Cx} (hc : X.calm = true) : CallX X (.builtin "all") allF := by
  refine ⟨_, cr_all hc, fun xs s vs H A B Q z R dv e q => ?_⟩
  unfold allF at e
  split at e
  · rename_i x
    obtain ⟨v, rfl, d⟩ := one_of dv
    split at e
    · rename_i ds hs
      cases hb : blsOf ds with
      | none => rw [hb] at e; cases e
      | some bs =>
        rw [hb] at e
        cases e
        obtain ⟨a, vs, rfl, h1, h2⟩ := of_seqL R d hs
        rw [blsOf_eq hb] at h2
        exact ⟨a, bs, rfl, by rw [← h2.bls]; exact h1, q.here R (.bl _)⟩
    · cases e
  · cases e
def absF (_ : Sto) : List D → Option D
  | [.int i] => some (.int (if i < 0 then -i else i))
  | _ => none
theorem callx_abs {X : Cx} : CallX X (.builtin "abs") absF := by
  refine ⟨_, call_abs, fun xs s vs H A B Q z R dv e q => ?_⟩
  unfold absF at e
  split at e
  · cases e
    obtain ⟨v, rfl, d⟩ := one_of dv
    cases d
    exact ⟨_, rfl, q.here R (.int _)⟩
  · cases e
def intF (_ : Sto) : List D → Option D
  | [.int i] => some (.int i)
  | [.bl k] => some (.int (b2n k))
  | _ => none
theorem callx_int {X : Cx} : CallX X (.type "int") intF := by
  refine ⟨_, call_int1, fun xs s vs H A B Q z R dv e q => ?_⟩
  unfold intF at e
  split at e
  · cases e
    obtain ⟨v, rfl, d⟩ := one_of dv
    cases d
    exact .inl ⟨_, rfl, q.here R (.int _)⟩
  · cases e
    obtain ⟨v, rfl, d⟩ := one_of dv
    cases d
    exact .inr ⟨_, rfl, q.here R (.int _)⟩
  · cases e
def min2F (_ : Sto) : List D → Option D
  | [.int i, .int j] => some (.int (if j < i then j else i))
  | _ => none
def max2F (_ : Sto) : List D → Option D
  | [.int i, .int j] => some (.int (if j > i then j else i))
  | _ => none
theorem callx_min2 {X : Cx} (hc : X.calm = true) : CallX X (.builtin "min") min2F := by
  refine ⟨_, call_min2 hc, fun xs s vs H A B Q z R dv e q => ?_⟩
  unfold min2F at e
  split at e
  · cases e
    obtain ⟨v, w, rfl, d, d'⟩ := two_of dv
    cases d
    cases d'
    exact ⟨_, _, rfl, q.here R (.int _)⟩
  · cases e
theorem callx_max2 {X : Cx} (hc : X.calm = true) : CallX X (.builtin "max") max2F := by
  refine ⟨_, call_max2 hc, fun xs s vs H A B Q z R dv e q => ?_⟩
  unfold max2F at e
  split at e
  · cases e
    obtain ⟨v, w, rfl, d, d'⟩ := two_of dv
    cases d
    cases d'
    exact ⟨_, _, rfl, q.here R (.int _)⟩
  · cases e
def seqA (s : Sto) (x : D) : Option (List D) := match x with
  | .tup xs => some xs
  | x => seqL s x
theorem of_seqA {K : PySem.W.Frag} {B : List Addr} {H : Hp} {A : List Addr} {s : Sto} {x : D} {v : V} {ds : List D} (R : RepS K B H A s) (dv : Dat K (Fz B H A s) A x v) (h : seqA s x = some ds) : ∃ a vs, v = .ref a ∧ (SqL K H a vs ∨ SqT K H a vs) ∧ DatL K (Fz B H A s) A ds vs := by
  by_cases e : ∃ xs, x = .tup xs
  · obtain ⟨xs, rfl⟩ := e
    obtain ⟨a, vs, e1, e2, e3⟩ := of_seqT dv h
    exact ⟨a, vs, e1, .inr e2, e3⟩
  · have h' : seqL s x = some ds := by
      cases x with
      | tup xs => exact absurd ⟨xs, rfl⟩ e
      | _ => exact h
    obtain ⟨a, vs, e1, e2, e3⟩ := of_seqL R dv h'
    exact ⟨a, vs, e1, .inl e2, e3⟩
def listF (s : Sto) : List D → Option D
  | [x] => (seqA s x).map .lst
  | _ => none
theorem callx_list {X : Cx} : CallX X (.type "list") listF := by
  refine ⟨_, call_list_of, fun xs s vs H A B Q z R dv e q => ?_⟩
  unfold listF at e
  split at e
  · rename_i x
    obtain ⟨v, rfl, d⟩ := one_of dv
    cases hs : seqA s x with
    | none => rw [hs] at e; cases e
    | some ds =>
      rw [hs] at e
      cases e
      obtain ⟨a, vs, rfl, h1, h2⟩ := of_seqA R d hs
      exact ⟨a, vs, rfl, h1, fun l hl => q.new R hl fun F e f => .lst f (h2.mono e fun _ _ h => h)⟩
  · cases e
def tupleF (s : Sto) : List D → Option D
  | [x] => (seqA s x).map .tup
  | _ => none
theorem callx_tuple {X : Cx} : CallX X (.type "tuple") tupleF := by
  refine ⟨_, call_tuple_of, fun xs s vs H A B Q z R dv e q => ?_⟩
  unfold tupleF at e
  split at e
  · rename_i x
    obtain ⟨v, rfl, d⟩ := one_of dv
    cases hs : seqA s x with
    | none => rw [hs] at e; cases e
    | some ds =>
      rw [hs] at e
      cases e
      by_cases et : ∃ xs, x = .tup xs
      · obtain ⟨xs, rfl⟩ := et
        cases hs
        cases d with
        | tup h1 h2 => exact ⟨_, _, rfl, .inr ⟨sqT_fz h1, q.here R (.tup h1 h2)⟩⟩
      · have h' : seqL s x = some ds := by
          cases x with
          | tup xs => exact absurd ⟨xs, rfl⟩ et
          | _ => exact hs
        obtain ⟨a, vs, rfl, h1, h2⟩ := of_seqL R d h'
        exact ⟨a, vs, rfl, .inl ⟨h1, fun l hl => q.new R hl fun F e f => .tup (.of f) (h2.mono e fun _ _ h => h)⟩⟩
  · cases e
def dListN (t : AD) : ED := fun env s Q => t env s fun xs s1 => ∃ x ds, xs = [x] ∧ seqA s1 x = some ds ∧ Q (.ref s1.length) (s1 ++ [some (.lst ds)])
theorem mono_listN {t : AD} (m : Mono t) : Mono (dListN t) := fun _ _ _ _ g h => m _ _ _ _ (fun _ _ ⟨x, ds, e1, e2, q⟩ => ⟨x, ds, e1, e2, g _ _ q⟩) h
theorem pd_listN {X : DX} {t : AD} (hg : Gl X "list") (hm : X.mg "list" = none) (ha : PAD X [e] t)
    (he : starEach [e] X.env = (false, eval e X.env) :: starEach [] X.env := by rfl) : PD X (.Call (.Name "list" p) [e] [] pos) (dListN t) := by
  refine ⟨pe_imp (pe_callTy call_list_of hg hm (show bootBuiltins "list" = some (.type "list") by decide +kernel) ha.pa (he := he)) fun σ H Q ⟨env, s, A, B, w, h⟩ => ?_, mono_listN ha.mono⟩
  refine rdA_go ha.mono w h fun xs s1 vs H1 A1 q w1 e1 dv => ?_
  obtain ⟨x, ds, rfl, hs, q⟩ := q
  obtain ⟨v, rfl, d⟩ := one_of dv
  obtain ⟨a, ws, rfl, h1, h2⟩ := of_seqA w1.rs d hs
  refine ⟨a, ws, rfl, h1, fun l hl => ?_⟩
  obtain ⟨r2, e2⟩ := w1.rs.born (o := .lst ws) (mo := .lst ds) hl ⟨ws, upd_same, h2⟩
  exact q _ _ _ r2 (e1.trans e2) (.ref (by rw [← w1.rs.len]; simp))
def idxF (s : Sto) (x i : D) : Option D :=
  match x, i with
  | .tup xs, .int i => atI xs i
  | .str z, .int i => (atI z.cps.toList i).map fun c => .str ⟨#[c]⟩
  | x, .int i => match seqL s x with
    | some xs => atI xs i
    | none => none
  | _, _ => none
theorem DatL.at {K : PySem.W.Frag} {F : Hp} {A : List Addr} {ds : List D} {vs : List V} {i : Int} {d : D} (h : DatL K F A ds vs) (e : atI ds i = some d) : ∃ v, atI vs i = some v ∧ Dat K F A d v := by
  unfold atI at e ⊢
  rw [h.length]
  cases hi : ixN ds.length i with
  | none => rw [hi] at e; cases e
  | some j =>
    rw [hi] at e
    exact h.get e
theorem pd_ix {X : DX} {a b : Expr} {ta tb : ED} (ha : PD X a ta) (hb : PD X b tb) (hs : PlainIx b) : PD X (.Subscript a b pos) (dBin (oF idxF) ta tb) := by
  refine ⟨pe_imp (pe_ix ix_seq ha.pe hb.pe hs) (bin_rd ha.mono hb.mono mono_oF fun x y s v w H A B Q R dv dw h => ?_), mono_bin mono_oF ha.mono hb.mono⟩
  obtain ⟨z, e, q⟩ := h
  unfold idxF at e
  split at e
  · cases dw
    cases dv with
    | tup h1 h2 =>
      obtain ⟨u, hu, du⟩ := h2.at e
      exact .inr (.inl ⟨_, _, _, u, rfl, rfl, sqT_fz h1, hu, q.here R du⟩)
  · cases dw
    cases dv with
    | str _ hz =>
      rename_i z' i
      cases hc : atI z'.cps.toList i with
      | none => rw [hc] at e; cases e
      | some c =>
        rw [hc] at e
        cases e
        exact .inr (.inr ⟨_, _, c, rfl, rfl, hz, hc, q.here R (.str _ (by show 1 ≤ sizeLine; decide))⟩)
  · cases dw
    split at e
    · rename_i xs hs
      obtain ⟨a, vs, rfl, h1, h2⟩ := of_seqL R dv hs
      obtain ⟨u, hu, du⟩ := h2.at e
      exact .inl ⟨_, _, _, u, rfl, rfl, h1, hu, q.here R du⟩
    · cases e
  · cases e
abbrev OD := En → Sto → (Option Int → Sto → Prop) → Prop
def rdO (K : KK) (t : OD) : TO := fun σ H Q => ∃ (env : En) (s : Sto) (A B : List Addr), Wo K B H A s env σ ∧ t env s fun o s' => ∀ (H' : Hp) (A' : List Addr), RepS K B H' A' s' → Ext B H A s H' A' s' → Q o H'
structure POD (X : DX) (e : Option Expr) (t : OD) : Prop where
  po : PO X e (rdO X.kk t)
  mono : Mono t
theorem po_imp {X : Cx} {e : Option Expr} {t t' : TO} (h : PO X e t) (f : ∀ σ H Q, t' σ H Q → t σ H Q) : PO X e t' := ⟨fun pins s σ H Q I q => h.run pins s σ H Q I (f σ H Q q)⟩
def dNoP : OD := fun _ s Q => Q none s
def dP (t : ED) : OD := fun env s Q => t env s fun x s1 => ∃ i, x = .int i ∧ Q (some i) s1
theorem pod_none {X : DX} : POD X none dNoP := ⟨po_imp po_none fun σ H Q ⟨env, s, A, B, w, h⟩ => h _ _ w.rs .refl, fun _ _ _ _ f h => f _ _ h⟩
theorem pod_some {X : DX} (he : PD X e te) : POD X (some e) (dP te) := ⟨po_imp (po_some he.pe) fun σ H Q ⟨env, s, A, B, w, h⟩ => rdE_go he.mono w h fun x s1 v H1 A1 ⟨i, ex, q⟩ w1 e1 dv => by
  subst ex
  cases dv
  exact ⟨i, rfl, q _ _ w1.rs e1⟩, fun _ _ _ _ f h => he.mono _ _ _ _ (fun _ _ ⟨i, e, q⟩ => ⟨i, e, f _ _ q⟩) h⟩
def cutD {α : Type} (xs : List α) (lo hi : Option Int) : List α := (xs.drop (HT.sIx xs.length 0 lo)).take (HT.sIx xs.length xs.length hi - HT.sIx xs.length 0 lo)
def sliceF (s : Sto) (x : D) (lo hi : Option Int) : Option D :=
  match x with
  | .tup xs => some (.tup (cutD xs lo hi))
  | .str z => some (.str ⟨(cutD z.cps.toList lo hi).toArray⟩)
  | x => (seqL s x).map fun xs => .lst (cutD xs lo hi)
def dSl (te : ED) (tl th : OD) : ED := fun env s Q => te env s fun x s1 => tl env s1 fun lo s2 => th env s2 fun hi s3 => ∃ z, sliceF s3 x lo hi = some z ∧ Q z s3
theorem mono_sl {tl th : OD} (me : Mono te) (ml : Mono tl) (mh : Mono th) : Mono (dSl te tl th) := fun _ _ _ _ f h => me _ _ _ _ (fun _ _ h => ml _ _ _ _ (fun _ _ h => mh _ _ _ _ (fun _ _ ⟨z, e, q⟩ => ⟨z, e, f _ _ q⟩) h) h) h
theorem DatL.cut {K : PySem.W.Frag} {F : Hp} {A : List Addr} {ds : List D} {vs : List V} (lo hi : Option Int) (h : DatL K F A ds vs) : DatL K F A (cutD ds lo hi) (cutV vs lo hi) := by
  unfold cutD cutV
  rw [h.length]
  exact (h.drop _).take _
theorem cut_whole {α : Type} {xs : List α} {lo hi : Option Int} (h : HT.sIx xs.length 0 lo = 0 ∧ HT.sIx xs.length xs.length hi = xs.length) : cutD xs lo hi = xs := by
  unfold cutD
  rw [h.1, h.2]
  simp
theorem pd_slice {X : DX} {lo hi : Option Expr} {tl th : OD} {p2 : Pos} (he : PD X e te) (hl : POD X lo tl) (hh : POD X hi th) : PD X (.Subscript e (.Slice lo hi none p2) pos) (dSl te tl th) := by
  refine ⟨pe_imp (pe_slice ((sl_list.or sl_tupA).or sl_str) he.pe hl.po hh.po) fun σ H Q ⟨env, s, A, B, w, h⟩ => ?_, mono_sl he.mono hl.mono hh.mono⟩
  refine rdE_go he.mono w h fun x s1 v H1 A1 q1 w1 e1 dv => ?_
  refine ⟨env, s1, A1, B, w1, hl.mono _ _ _ _ (fun l s2 q2 H2 A2 r2 e2 => ?_) q1⟩
  have w2 := w1.to r2 e2
  refine ⟨env, s2, A2, B, w2, hh.mono _ _ _ _ (fun u s3 q3 H3 A3 r3 e3 => ?_) q2⟩
  have d3 := (dv.ext e2).ext e3
  obtain ⟨z, ez, q⟩ := q3
  have q := PostE.from ((e1.trans e2).trans e3) q
  unfold sliceF at ez
  split at ez
  · cases ez
    cases d3 with
    | tup h1 h2 =>
      refine .inl (.inr ⟨_, _, rfl, sqT_fz h1, fun hw => ?_, fun hw p hp => q.new r3 hp fun F e f => .tup (.of f) ((h2.cut _ _).mono e fun _ _ h => h)⟩)
      rw [h2.length] at hw
      rw [cut_whole hw] at q
      exact q.here r3 (.tup h1 h2)
  · cases ez
    cases d3 with
    | str _ hz =>
      refine .inr ⟨_, rfl, hz, q.here r3 (.str _ ?_)⟩
      show (cutD _ l u).toArray.size ≤ sizeLine
      rw [List.size_toArray]
      unfold cutD
      have : ∀ (z : Str), z.cps.toList.length = z.length := fun z => by simp [Str.length]
      simp only [List.length_take, List.length_drop]
      have hz' : ∀ (z : Str), z.length ≤ sizeLine → z.cps.toList.length ≤ sizeLine := fun z h => by rw [this]; exact h
      have := hz' _ hz
      omega
  · cases hs : seqL s3 x with
    | none => rw [hs] at ez; cases ez
    | some xs =>
      rw [hs] at ez
      cases ez
      obtain ⟨a, vs, rfl, h1, h2⟩ := of_seqL r3 d3 hs
      exact .inl (.inl ⟨a, vs, rfl, h1, fun p hp => q.new r3 hp fun F e f => .lst f ((h2.cut _ _).mono e fun _ _ h => h)⟩)
end
end Dl
namespace Dl
open PySem PySem.Spec PyProof.Rows L2
section
variable {pos p : Pos} {e : Expr} {te : ED}
def MtLX (X : Cx) (id : String) (f : List D → List D → Option (D × List D)) : Prop := ∃ r, MtR X id r ∧ ∀ (F : Hp) (A : List Addr) (H : Hp) (a : Addr) (vs : List V) (ds : List D) (xs : List D) (ws : List V) (z : D) (ds' : List D) (Q : VK),
  H a = some (.lst vs) → DatL X.K F A ds vs → DatL X.K F A xs ws → f ds xs = some (z, ds') → (∀ v vs', Dat X.K F A z v → DatL X.K F A ds' vs' → Q v (upd H a (.lst vs'))) → r (.ref a) ws H Q
def dMt (f : List D → List D → Option (D × List D)) (to : ED) (t : AD) : ED := fun env s Q => to env s fun o s1 => ∃ l ds0, o = .ref l ∧ s1[l]? = some (some (.lst ds0)) ∧ t env s1 fun xs s2 => ∃ ds z ds', s2[l]? = some (some (.lst ds)) ∧ f ds xs = some (z, ds') ∧ Q z (s2.set l (some (.lst ds')))
theorem mono_mt {f : List D → List D → Option (D × List D)} {to : ED} {t : AD} (mo : Mono to) (m : Mono t) : Mono (dMt f to t) := fun _ _ _ _ g h => mo _ _ _ _ (fun _ _ ⟨l, ds0, e1, e2, q⟩ => ⟨l, ds0, e1, e2, m _ _ _ _ (fun _ _ ⟨ds, z, ds', h1, h2, q⟩ => ⟨ds, z, ds', h1, h2, g _ _ q⟩) q⟩) h
theorem mt_core {X : Cx} {f : List D → List D → Option (D × List D)} {r : V → List V → Hp → VK → Prop} (hr : ∀ (F : Hp) (A : List Addr) (H : Hp) (a : Addr) (vs : List V) (ds : List D) (xs : List D) (ws : List V) (z : D) (ds' : List D) (Q : VK),
    H a = some (.lst vs) → DatL X.K F A ds vs → DatL X.K F A xs ws → f ds xs = some (z, ds') → (∀ v vs', Dat X.K F A z v → DatL X.K F A ds' vs' → Q v (upd H a (.lst vs'))) → r (.ref a) ws H Q)
    {B : List Addr} {H : Hp} {A : List Addr} {s : Sto} {l : Nat} {a : Addr} {ds : List D} {xs : List D} {ws : List V} {z : D} {ds' : List D} {Q : VK} (R : RepS X.K B H A s) (hA : A[l]? = some a) (hs : s[l]? = some (some (.lst ds))) (dw : DatL X.K (Fz B H A s) A xs ws) (hf : f ds xs = some (z, ds'))
    (q : PostE X.K B H A s Q z (s.set l (some (.lst ds')))) : r (.ref a) ws H Q := by
  obtain ⟨a', ha', vs, hv, hd⟩ := R.ob l _ hs
  rw [hA] at ha'; cases ha'
  refine hr _ _ H a vs ds xs ws z ds' Q hv hd dw hf fun v vs' dz dd => ?_
  obtain ⟨r2, e2⟩ := R.write (o := .lst vs') (mo' := .lst ds') hs hA ⟨vs', upd_same, dd⟩
  exact q v _ _ r2 e2 (dz.ext e2)
theorem pd_mt {X : DX} {f : List D → List D → Option (D × List D)} {id : String} {name : Str} {o : Expr} {es : List Expr} {to : ED} {t : AD} {apos cpos : Pos} (slot : Slot "list" name id) (hty : typeOf (.builtin id) = pure (.type "method_descriptor")) (hm : MtLX X id f) (ho : PD X o to) (ha : PAD X (e :: es) t)
    (hbase : attributeBase o name X.env (eval o X.env) = eval o X.env := by rfl)
    (hfew : ((backTo cpos (starEach (e :: es) X.env)).all (fun x => !x.1) && (backToKw cpos (keywordEach [] X.env)).all (fun x => x.1.isSome)
      && decide ((e :: es).length + ([] : List Keyword).length + (if ([] : List Keyword).isEmpty then 0 else 1) < 30)) = true := by rfl)
    (hline : (apos.endLine == cpos.line) = true := by rfl) (hs : starEach (e :: es) X.env = (false, eval e X.env) :: starEach es X.env := by rfl) (hplain : (backTo cpos (starEach es X.env)).any (·.1) = false := by rfl) :
    PD X (.Call (.Attribute o name apos) (e :: es) [] cpos) (dMt f to t) := by
  obtain ⟨r, h1, h2⟩ := hm
  refine ⟨pe_imp (pe_bm PySem.F.plainAttrs_list slot hty h1 ho.pe ha.pa hbase hfew hline hs hplain) fun σ H Q ⟨env, s, A, B, w, h⟩ => ?_, mono_mt ho.mono ha.mono⟩
  refine rdE_go ho.mono w h fun x s1 v H1 A1 q1 w1 e1 dv => ?_
  obtain ⟨l, ds0, rfl, hl, q1⟩ := q1
  cases dv with
  | ref hA =>
    obtain ⟨a', ha', vs0, hv0, _⟩ := w1.rs.ob l _ hl
    rw [hA] at ha'; cases ha'
    refine ⟨.inl ⟨rfl, _, .of hv0⟩, rdA_go ha.mono w1 q1 fun xs s2 ws H2 A2 q2 w2 e2 dw => ?_⟩
    obtain ⟨ds, z, ds', hs2, hf, q⟩ := q2
    exact mt_core h2 w2.rs (e2.pre _ _ hA) hs2 dw hf (PostE.from (e1.trans e2) q)
def fAppend (ds : List D) : List D → Option (D × List D)
  | [y] => if ds.length < sizeLine then some (.non, ds ++ [y]) else none
  | _ => none
theorem mtx_append {X : Cx} : MtLX X "list.append" fAppend := by
  refine ⟨_, mt_append, fun F A H a vs ds xs ws z ds' Q hv hd hw hf q => ?_⟩
  unfold fAppend at hf
  split at hf
  · split at hf
    · cases hf
      rename_i hz
      obtain ⟨v, rfl, d⟩ := one_of hw
      exact ⟨a, vs, v, rfl, rfl, hv, by rw [hd.length]; exact hz, q _ _ .non (hd.append (.cons d .nil))⟩
    · cases hf
  · cases hf
def fPop (ds : List D) : List D → Option (D × List D)
  | [.int i] => if -(2 ^ 63) ≤ i ∧ i < 2 ^ 63 then (match ixN ds.length i with
    | some k => (ds[k]?).map fun y => (y, ds.eraseIdx k)
    | none => none) else none
  | _ => none
theorem mtx_pop {X : Cx} : MtLX X "list.pop" fPop := by
  refine ⟨_, mt_popAt, fun F A H a vs ds xs ws z ds' Q hv hd hw hf q => ?_⟩
  unfold fPop at hf
  split at hf
  · rename_i i
    obtain ⟨v, rfl, d⟩ := one_of hw
    cases d
    split at hf
    · rename_i hb
      split at hf
      · rename_i k hk
        cases hy : ds[k]? with
        | none => rw [hy] at hf; cases hf
        | some y =>
          rw [hy] at hf
          cases hf
          obtain ⟨u, hu, du⟩ := hd.get hy
          exact ⟨a, vs, i, k, u, rfl, rfl, hv, hb.1, hb.2, by rw [hd.length]; exact (ixN_seq hk).1, hu, q _ _ du (hd.eraseIdx k)⟩
      · cases hf
    · cases hf
  · cases hf
def strsOf : List D → Option (List Str)
  | [] => some []
  | .str b :: r => (strsOf r).map (b :: ·)
  | _ => none
theorem strsOf_eq : ∀ {ds : List D} {bs : List Str}, strsOf ds = some bs → ds = bs.map .str
  | [], _, h => by cases h; rfl
  | .str b :: r, _, h => by
    unfold strsOf at h
    cases hr : strsOf r with
    | none => rw [hr] at h; cases h
    | some l => rw [hr] at h; cases h; rw [strsOf_eq hr]; rfl
  | .non :: _, _, h => by cases h
  | .bl _ :: _, _, h => by cases h
  | .int _ :: _, _, h => by cases h
  | .tup _ :: _, _, h => by cases h
  | .lst _ :: _, _, h => by cases h
  | .frl _ :: _, _, h => by cases h
  | .dk _ _ :: _, _, h => by cases h
  | .dt _ _ :: _, _, h => by cases h
  | .ref _ :: _, _, h => by cases h
  | .exc _ _ _ :: _, _, h => by cases h
@[simp] theorem strsOf_map (bs : List Str) : strsOf (bs.map D.str) = some bs := by
  induction bs with
  | nil => rfl
  | cons b bs ih => simp [strsOf, ih]
def dJoin (to te : ED) : ED := fun env s Q => to env s fun o s1 => ∃ a, o = .str a ∧ te env s1 fun x s2 => ∃ ds ys, seqA s2 x = some ds ∧ strsOf ds = some ys ∧ (ys.map (·.length)).sum + ys.length * a.length ≤ 16777216 ∧ Q (.str (Txt.join a ys)) s2
theorem mono_join {to : ED} (mo : Mono to) (me : Mono te) : Mono (dJoin to te) := fun _ _ _ _ f h => mo _ _ _ _ (fun _ _ ⟨a, e, q⟩ => ⟨a, e, me _ _ _ _ (fun _ _ ⟨ds, ys, h1, h2, h3, q⟩ => ⟨ds, ys, h1, h2, h3, f _ _ q⟩) q⟩) h
theorem join_le (sep : Str) (ys : List Str) (h : (ys.map (·.length)).sum + ys.length * sep.length ≤ 16777216) : (Txt.join sep ys).length ≤ sizeLine := by
  have h1 := PySem.StrLaws.join_length_le sep ys
  have h2 : sizeLine = 16777216 := sizeLine_eq
  have h3 : Txt.join sep ys = Str.join sep ys := by
    exact PySem.StrLaws.glued_eq_join _ _
  rw [h3]; omega
theorem pd_join {X : DX} {o : Expr} {to : ED} {apos : Pos} (ho : PD X o to) (he : PD X e te) (hs : starEach [e] X.env = [(false, eval e X.env)] := by rfl) (hbase : attributeBase o "join" X.env (eval o X.env) = eval o X.env := by rfl) (hline : (apos.endLine == pos.line) = true := by rfl) :
    PD X (.Call (.Attribute o "join" apos) [e] [] pos) (dJoin to te) := by
  refine ⟨pe_imp (pe_join ho.pe he.pe hs hbase hline) fun σ H Q ⟨env, s, A, B, w, h⟩ => ?_, mono_join ho.mono he.mono⟩
  refine rdE_go ho.mono w h fun x s1 v H1 A1 q1 w1 e1 dv => ?_
  obtain ⟨a, rfl, q1⟩ := q1
  cases dv
  refine ⟨⟨a, rfl⟩, rdE_go he.mono w1 q1 fun y s2 u H2 A2 q2 w2 e2 du => ?_⟩
  obtain ⟨ds, ys, hd, hy, hz, q⟩ := q2
  obtain ⟨b, vs, rfl, h1, h2⟩ := of_seqA w2.rs du hd
  rw [strsOf_eq hy] at h2
  rw [h2.strs] at h1
  exact ⟨a, b, ys, rfl, rfl, h1, hz, q _ _ _ w2.rs (e1.trans e2) (.str _ (join_le a ys hz))⟩
def isiTF (Ts : List String) (s : Sto) (x : D) : Option D := (tyName s x).map fun a => .bl (Ts.any (isSub a))
theorem kit_any {K : PySem.W.Frag} {a : String} (ha : a ∈ ["NoneType", "bool", "int", "str", "tuple", "list", "dict"]) : ∀ {Ts : List String}, (∀ T ∈ Ts, T ∈ ["bool", "int", "str", "tuple", "list", "dict"]) → PySem.W.kitAny K (.type a) (Ts.map Value.type) = some (Ts.any (isSub a))
  | [], _ => kitAny_nil
  | T :: Ts, h => by
    refine kitAny_cons (b := isSub a T) (kit_of_names ha (h T List.mem_cons_self)) (fun hb => ?_) fun hb => ?_
    · rw [List.any_cons, hb, Bool.false_or]
      exact kit_any ha fun T' h' => h T' (List.mem_cons_of_mem _ h')
    · rw [List.any_cons, hb, Bool.true_or]
theorem pd_isiT {X : DX} {Ts : List String} {es : List Expr} {k : Nat} {pT : Pos} {tt : TA} (hg : Gl X "isinstance") (hm : X.mg "isinstance" = none) (hT : ∀ T ∈ Ts, T ∈ ["bool", "int", "str", "tuple", "list", "dict"]) (hl : Ts.length ≤ 100) (he : PD X e te)
    (hes : PA X es tt) (htt : ∀ σ H Q, Q (Ts.map V.ty) H → tt σ H Q)
    (h1 : starEach [e, .Tuple es k pT] X.env = (false, eval e X.env) :: starEach [.Tuple es k pT] X.env := by rfl) (h2 : starEach [.Tuple es k pT] X.env = (false, eval (.Tuple es k pT) X.env) :: starEach [] X.env := by rfl) (hpl : (backTo pos (starEach [.Tuple es k pT] X.env)).any (·.1) = false := by rfl) :
    PD X (.Call (.Name "isinstance" p) [e, .Tuple es k pT] [] pos) (dUn (isiTF Ts) te) := by
  refine ⟨pe_imp (pe_callB call_isiT hg hm (show bootBuiltins "isinstance" = some (.builtin "isinstance") by decide +kernel) (pa_cons he.pe (pa_cons (pe_tup hes) pa_nil h2) h1) (he := h1) (hpl := hpl)) fun σ H Q ⟨env, s, A, B, w, h⟩ => ?_, mono_un he.mono⟩
  refine rdE_go he.mono w h fun x s1 v H1 A1 q w1 e1 dv => ?_
  obtain ⟨z, ez, q⟩ := q
  unfold isiTF at ez
  cases ht : tyName s1 x with
  | none => rw [ht] at ez; cases ez
  | some a =>
    rw [ht] at ez
    cases ez
    refine htt _ _ _ ⟨by rw [List.length_map]; exact Nat.le_trans hl (by decide), fun tp htp => ?_⟩
    obtain ⟨r2, e2, f2⟩ := w1.rs.laid (o := .tup (Ts.map V.ty)) htp
    have hpair : ∀ l : List String, Paired ClsV (l.map V.ty) (l.map Value.type) := fun l => by
      induction l with
      | nil => exact .nil
      | cons t l ih => exact .cons (.ty t) ih
    have ty0 := tyx_of (x := x) (v := v) (n := a) r2 (dv.ext e2) ht
    exact ⟨v, tp, Ts.map V.ty, .type a, Ts.map Value.type, _, rfl, upd_same, hpair Ts, ty0, kit_any (tyName_mem ht) hT, q _ _ _ r2 (e1.trans e2) (.bl _)⟩
theorem pa_tys1 {X : Cx} {T : Str} {n : String} {es : List Expr} {tt : TA} {pT : Pos} (hgT : Gl X T) (hmT : X.mg T = none) (hv : bootBuiltins T = some (.type n)) (hr : PA X es tt) (hn : T ≠ "__name__" := by decide) (hd : (T == ("__debug__" : Str)) = false := by decide)
    (hs : starEach (.Name T pT :: es) X.env = (false, eval (.Name T pT) X.env) :: starEach es X.env := by rfl) : PA X (.Name T pT :: es) (tCons (tC (.ty n)) tt) :=
  pa_cons (pe_bltn hgT hmT hv (show RelV (.ty n) (Value.type n) from rfl) hn hd) hr hs
theorem pd_dk0 {X : DX} : PD X (.Dict [] [] pos) (dC (.dk [] [])) := ⟨pe_imp pe_dnewK fun σ H Q ⟨env, s, A, B, w, q⟩ p hp => PostE.new w.rs q hp fun F e f => .dk (kvs := []) f .nil, mono_c⟩
theorem int___gt___bool_int_0 (a : Bool) (b : Int) (u : Tok) : Gives (Builtin.«int.__gt__» ⟨[.bool a, .int b u], []⟩) (.val (Value.bool ((fun x1 x2 => decide (x1 > x2)) (if a = true then (1 : Int) else 0) b))) :=
  .of_wp fun M A E s Q h => by obtain ⟨hp, g, d, tk, os⟩ := s; wp_walk; exact ⟨_, rfl, h⟩
theorem gt_bool_int {P : Program} {w : World} {A : Around} {E : Value → Shared → Prop} {s : Shared} {Q : Value → Shared → Prop} {a : Bool} {b : Int} {u : Tok} (h : Q (.bool (decide (b < b2n a))) s) : wpAny (model P w) A (compareOp .Gt (.bool a) (.int b u)) Q E s := by
  show wpAny (model P w) A (richCompare .Gt (.bool a) (.int b u)) Q E s
  exact SeqAt.rc_left_or rfl (typeIs_int s b u) (by decide) F.sub_int_bool F.slot_bool_gt
    (call_gives F.slot_bool_gt rfl F.entry_int_gt (F.args_int_gt_2 _ _) (int___gt___bool_int_0 a b u) ⟨nofun, h⟩) (.inl rfl)
def gtBF (_ : Sto) (x y : D) : Option D :=
  match x, y with
  | .int i, .int j => some (.bl (decide (j < i)))
  | .bl k, .int j => some (.bl (decide (j < b2n k)))
  | _, _ => none
theorem opx_gtB {X : Cx} : OpX X (compareOp .Gt) (oF gtBF) := by
  have h1 : OpX X (compareOp .Gt) (oII fun i j => .bl (decide (j < i))) := opx_ii op_gt fun _ _ _ _ => .bl _
  have h2 : OpX X (compareOp .Gt) (oBI fun i j => .bl (decide (j < i))) := opx_bi (g := fun i j => .bl (decide (j < i))) (opr_bi (g := fun i j => .bl (decide (j < i))) fun k j u pins s σ H Q I q => gt_bool_int ⟨.bl _, H, I, rfl, q⟩) fun _ _ _ _ => .bl _
  refine (h1.or h2).imp ?_
  rintro x y s Q ⟨z, e, q⟩
  unfold gtBF at e
  split at e
  · cases e; exact .inl ⟨_, _, rfl, rfl, q⟩
  · cases e; exact .inr ⟨_, _, rfl, rfl, q⟩
  · cases e
end
def envD (N : List Str) (ds : List D) : En := ds.map some ++ List.replicate (N.length - ds.length) none
theorem repE_start {K : PySem.W.Frag} {F : Hp} {A : List Addr} {N : List Str} {ds : List D} {vs : List V} (h : DatL K F A ds vs) : RepE K F A (envD N ds) (L2.start N vs) := by
  refine ⟨by unfold envD L2.start; simp [h.length], fun i d e => ?_⟩
  unfold envD at e
  by_cases hi : i < ds.length
  · rw [List.getElem?_append_left (by simpa using hi), List.getElem?_map] at e
    cases q : ds[i]? with
    | none => rw [q] at e; cases e
    | some d' =>
      rw [q] at e
      cases e
      obtain ⟨v, h1, h2⟩ := h.get q
      refine ⟨v, ?_, h2⟩
      unfold L2.start
      rw [List.getElem?_append_left (by rw [List.length_map, h.length]; exact hi), List.getElem?_map, h1]
      rfl
  · rw [List.getElem?_append_right (by simpa using hi), List.getElem?_replicate] at e
    split at e <;> cases e
def endsOf (Q : D → Sto → Prop) : EndsD := ⟨fun _ s => Q .non s, Q, fun _ _ => False, fun _ _ => False⟩
theorem fn_ofG {CX : CXT} {P : Program} {w : World} {K : PySem.W.Frag} {mg : Str → Option Value} {base : Heap} {k : Nat} {f : Addr} {name qual : Str} {params : Arguments} {body : List Stmt} {scope : Scope} {dV kV doc pm cdv ct oc : Value} {an od : Option Addr} {osl : Array (Option Value)} {N ps : List Str} {sp : SpD}
    (look : K.lookup f = some ⟨oc, od, .func (PySem.W.fnOf name qual params body scope dV kV doc pm an cdv ct), osl⟩) (code : PySem.W.codeIn K cdv qual = true) (S : FnScope N ps scope) (len : ∀ ds s Q E, sp ds s Q E → ds.length = ps.length) (mono : MonoSp sp)
    (hbody : ∀ (A : Around) (outer : List PySem.Env) (s : Shared) (H : Hp) (vs : List V) (Q : VK) (E : XK), RoomG k (A.deeper (envOfC qual scope s.heap.objs.size f cdv)) → liftSp K mg sp vs H Q E →
      ∃ t : TS, PSs (cxOf CX P w K mg base N qual scope f cdv A outer s H E) body t ∧ t { nx := fun _ H2 => Q .non H2, rt := Q } (L2.start N vs) H) : FnD P w K mg base CX (k + 1) f (PySem.W.fnOf name qual params body scope dV kV doc pm an cdv ct) ps sp := by
  refine ⟨len, ?_, mono⟩
  intro A outer s H args us vs Q E room e0 bind rel want
  have nl := liftSp.len len want
  have keep : ∀ b o, base.get? b = some o → s.heap.get? b = some o := fun b o z => (e0.bs b o z).1
  have KX : K.In s.heap := e0.mod.kin.keeps keep
  have lim := e0.mod.nolimit.keeps keep
  have kinds : ∀ y ∈ ps.zip us, scope.names.lookup y.1 = some .local ∨ (scope.names.lookup y.1 = some .cell ∧ ((cellsFrom (s.heap.objs.size + 1) scope.names []).lookup y.1).isSome = true) := by
    rintro ⟨n, v⟩ hy
    exact (S.par n (List.of_mem_zip hy).1).imp id fun q => ⟨q, PySem.W.cellsFrom_some _ _ _ (.inl q)⟩
  refine codeAny_call_function room.r.depth (KX _ _ look) rfl S.co S.gen rfl (PySem.W.codeRec_of KX code) (bind _ _ _ _ ?_)
  refine wpAny_newFunctionEnv_cells S.kind kinds ?_
  intro env he s1 x
  subst he
  refine ⟨lim.keeps x.toInCall.keep, codeAny_func ?_⟩
  obtain ⟨t, rule, q⟩ := hbody A outer s H vs Q E (room.deeper _) want
  refine wpAny_mono (rule.run [] s1 (L2.start N vs) H _ (inv_start S room.r.hd e0 nl rel x) q) (fun o s2 ho => ?_) fun _ _ ho => ho
  have out : ∀ {σ2 : L2.St} {H2 : Hp} {v : V} {u : Value}, Inv (cxOf CX P w K mg base N qual scope f cdv A outer s H E) [] σ2 H2 s2 → RelV v u → Q v H2 → CE outer P w H s Q u s2 := fun {σ2 H2 v u} J rv q2 => ⟨v, H2, J.os, J.bare, J.base, J.hok, rv, q2⟩
  cases o with
  | ret u => exact let ⟨v, σ2, H2, J, rv, q2⟩ := ho; out J rv q2
  | next => exact let ⟨σ2, H2, J, q2⟩ := ho; out (v := V.non) (u := Value.none) J rfl q2
  | brk => exact let ⟨_, _, _, q2⟩ := ho; q2.elim
  | cont => exact let ⟨_, _, _, q2⟩ := ho; q2.elim
theorem fnD {P : Program} {w : World} {K : PySem.W.Frag} {mg : Str → Option Value} {base : Heap} {x qual : Str} {st : Stmt} {f : Addr} {fd : FuncData} {N ps : List Str} {k : Nat} {sp : SpD} {tb : SD} (F : Fun K x qual st f fd) (S : FnScope N ps (defScope st)) (mono : MonoSp sp)
    (len : ∀ ds s Q E, sp ds s Q E → ds.length = ps.length)
    (body : ∀ (cdv : Value) (A : Around) (outer : List PySem.Env) (s : Shared) (H : Hp) (E : XK), RoomG k (A.deeper (envOfC qual (defScope st) s.heap.objs.size f cdv)) → PSsD (dx0 (cxOf CX0 P w K mg base N qual (defScope st) f cdv A outer s H E).nox) (defBody st) tb)
    (h : ∀ ds s Q E, sp ds s Q E → tb (endsOf Q) (envD N ds) s) : FnD P w K mg base CX0 (k + 1) f fd ps sp := by
  obtain ⟨oc, od, kV, doc, pm, an, cdv, ct, osl, rfl, lk, hcd⟩ := F.ex
  refine fn_ofG lk hcd S len mono fun A outer s H vs Q E hr hs => ?_
  obtain ⟨ds, s0, A0, B, R, d, q⟩ := hs
  have b := body cdv A outer s H E hr
  refine ⟨_, b.pss.nox, envD N ds, s0, A0, B, ⟨R, repE_start d, trivial⟩, b.mono (endsOf (PostE K B H A0 s0 Q)) _ _ _ ⟨fun e s' q σ' H' A' r x re => ?_, fun _ _ q => q, fun _ _ q => False.elim q, fun _ _ q => False.elim q⟩ (h _ _ _ _ q)⟩
  exact q V.non H' A' r x .non
def dxR {CX : CXT} (P : Program) (w : World) (K : PySem.W.Frag) (mg : Str → Option Value) (base : Heap) (N : List Str) (qual : Str) (scope : Scope) (f : Addr) (cdv : Value) (A : Around) (outer : List PySem.Env) (s : Shared) (H : Hp) (E : XK) (hC : CX = L2N.CX P w) (B0 : List Addr) (A0 : List Addr) (s0 : Sto) : DX :=
  { cxOf CX P w K mg base N qual scope f cdv A outer s H E with
    W := fun cls d _ H' => E cls d H'
    tk := by subst hC; exact L2N.takes_of rfl rfl rfl rfl
    Z := fun B H1 A1 s1 => B = B0 ∧ Ext B0 H A0 s0 H1 A1 s1
    zc := fun {B H1 H2 A1 A2 s1 s2} z e => ⟨z.1, z.2.trans (by rw [← z.1]; exact e)⟩
    WD := fun x fs _ s' => PostX K mg B0 H A0 s0 E x fs s'
    wd := fun x fs env s' cls dx σ B H' A' wo hm xr h => by
      obtain ⟨rs, re, rfl, ex⟩ := wo
      exact h cls dx H' A' hm rs ex xr }
theorem fnDX {P : Program} {w : World} {K : PySem.W.Frag} {mg : Str → Option Value} {base : Heap} {x qual : Str} {st : Stmt} {f : Addr} {fd : FuncData} {N ps : List Str} {k : Nat} {sp : SpD} {tb : WXD → SD} (F : Fun K x qual st f fd) (S : FnScope N ps (defScope st)) (mono : MonoSp sp)
    (len : ∀ ds s Q E, sp ds s Q E → ds.length = ps.length)
    (body : ∀ (cdv : Value) (A : Around) (outer : List PySem.Env) (s : Shared) (H : Hp) (E : XK) (B0 A0 : List Addr) (s0 : Sto), RoomG k (A.deeper (envOfC qual (defScope st) s.heap.objs.size f cdv)) →
      PSsD (dxR P w K mg base N qual (defScope st) f cdv A outer s H E rfl B0 A0 s0) (defBody st) (tb fun y fs _ s' => PostX K mg B0 H A0 s0 E y fs s'))
    (h : ∀ ds s Q E, sp ds s Q E → tb (fun y fs _ s' => E y fs s') (endsOf Q) (envD N ds) s) : FnD P w K mg base (L2N.CX P w) (k + 1) f fd ps sp := by
  obtain ⟨oc, od, kV, doc, pm, an, cdv, ct, osl, rfl, lk, hcd⟩ := F.ex
  refine fn_ofG lk hcd S len mono fun A outer s H vs Q E hr hs => ?_
  obtain ⟨ds, s0, A0, B, R, d, q⟩ := hs
  have b := body cdv A outer s H E B A0 s0 hr
  refine ⟨_, b.pss, envD N ds, s0, A0, B, ⟨R, repE_start d, rfl, .refl⟩, b.mono (endsOf (PostE K B H A0 s0 Q)) _ _ _ ⟨fun e s' q σ' H' A' r x re => ?_, fun _ _ q => q, fun _ _ q => False.elim q, fun _ _ q => False.elim q⟩ (h _ _ _ _ q)⟩
  exact q V.non H' A' r x .non
def spLaw : SpD := fun ds s Q _ => ∃ ns : List Int, ds = [.frl (ns.map .int)] ∧ ns.length ≤ 63 ∧ (∀ z ∈ ns, Builtin.Int.intBits z ≤ 1048576) ∧ s = [] ∧ ∀ s', Q (.bl true) s'
theorem mono_spLaw : MonoSp spLaw := fun _ _ _ _ _ _ f _ ⟨ns, h1, h2, h3, h4, h5⟩ => ⟨ns, h1, h2, h3, h4, fun s' => f _ _ (h5 s')⟩
theorem len_spLaw {ps : List Str} (hn : ps.length = 1 := by rfl) : ∀ ds s Q E, spLaw ds s Q E → ds.length = ps.length := fun _ _ _ _ ⟨ns, h1, _⟩ => by rw [h1, hn]; rfl
def tabCs (K : PySem.W.Frag) : List (Addr × Addr) := lamNames.filterMap fun x => PySem.W.tabIn K x
def OnlyT (H : Hp) (cs : List (Addr × Addr)) : Prop := ∀ b, H b = none ∨ b ∈ cs.map (·.2) ∨ ∃ o xs, H b = some (.frz o (.lst xs))
theorem tabs_start {K : PySem.W.Frag} {H : Hp} (hT : ∀ p ∈ tabCs K, H p.2 = some (.tbl #[])) : LamX.Tabs (tabsOf K) H := fun p hp => by
  obtain ⟨x, hx, e⟩ := List.mem_filterMap.mp hp
  cases ht : PySem.W.tabIn K x with
  | none => rw [ht] at e; cases e
  | some cp =>
    rw [ht] at e
    cases e
    exact .nil (hT cp (List.mem_filterMap.mpr ⟨x, hx, ht⟩))
theorem law_hsp {K : PySem.W.Frag} {mg : Str → Option Value} {H : Hp} {a : Addr} {ns : List Int} (hl : ns.length ≤ 63) (hb : ∀ z ∈ ns, Builtin.Int.intBits z ≤ 1048576) (hO : OnlyT H (tabCs K)) (hT : ∀ p ∈ tabCs K, H p.2 = some (.tbl #[])) (hS : SqL K H a (ns.map V.int)) : liftSp K mg spLaw [.ref a] H (fun v _ => v = .bl true) fun _ _ _ => False := by
  have R : RepS K [] H [] [] := ⟨rfl, .nil, (fun a ha => nomatch ha), (fun b hb => nomatch hb), (fun b hb => nomatch hb), (fun b hb => nomatch hb), (fun b hb => nomatch hb), tabs_start hT, (fun l mo h => nomatch (show (none : Option (Option MO)) = some (some mo) from h))⟩
  have nl : ∀ b, ¬ Live [] [] b := fun b ⟨l, mo, h, _⟩ => by simp at h
  have hF : SqF K (Fz [] H [] []) a (ns.map V.int) := by
    rcases hS with (h | ⟨o, h⟩) | h
    · rcases hO a with e | e | ⟨o, xs, e⟩
      · rw [h] at e; cases e
      · obtain ⟨p, hp, rfl⟩ := List.mem_map.mp e
        rw [hT p hp] at h; cases h
      · rw [h] at e; cases e
    · exact .inl ⟨o, fz_to h (nl _) (by simp)⟩
    · exact .inr h
  refine ⟨[.frl (ns.map .int)], [], [], [], R, .cons (.frl hF (DatL.of_ints ns)) .nil, ns, rfl, hl, hb, rfl, fun s' v H' A' r e d => ?_⟩
  cases d
  rfl
structure GroundG (K : PySem.W.Frag) (H : Hp) (a : Addr) : Prop where
  on : OnlyT H (tabCs K)
  ts : ∀ p ∈ tabCs K, H p.2 = some (.tbl #[])
  at_ : ∀ b, H b ≠ none → b = a ∨ b ∈ (tabCs K).map (·.2)
  kn : H a ≠ none → K.lookup a = none
theorem GroundG.free {K : PySem.W.Frag} {H : Hp} {a b : Addr} (g : GroundG K H a) (n : b ≠ a) (m : b ∉ (tabCs K).map (·.2)) : H b = none := by
  cases q : H b with
  | none => rfl
  | some u => exact ((g.at_ b (by simp [q])).elim n m).elim
structure TabH (K : PySem.W.Frag) (h : Heap) : Prop where
  e : ∀ p ∈ tabCs K, h.get? p.2 = some { cls := .none, data := .fields #[] }
  n : ∀ p ∈ tabCs K, K.lookup p.2 = none
  c : ∀ p ∈ tabCs K, PySem.W.CodeHd h p.1 p.2
def TabsB (K : PySem.W.Frag) (mg : Str → Option Value) (base : Heap) : Prop := ∀ p ∈ tabCs K, LamX.TabB base mg p.1 p.2
theorem law_coreG {P : Program} {w : World} {K : PySem.W.Frag} {mg mb : Str → Option Value} {fa a : Addr} {s₁ : Shared} {vs : List Value} {ns : List Int}
    (KX : K.In s₁.heap) (hns : s₁.heap.Ns mainGlobals mg) (hb : s₁.heap.Ns builtinsNs mb) (hbb : ∀ y : Str, y ≠ "__name__" → mb y = bootBuiltins y) (hlim : s₁.heap.NoLimit) (hg : s₁.gens = #[]) (hTb : TabH K s₁.heap)
    (hbm : ∃ (bm : Addr) (ob : Obj), mg "__builtins__" = some (.ref bm) ∧ bm ≠ builtinsNs ∧ s₁.heap.get? bm = some ob ∧ ob.cls = .type "module" ∧ ob.dict = some builtinsNs ∧ ob.data = .plain)
    (ha : s₁.heap.get? a = some { cls := .type "list", data := .seq vs.toArray }) (hi : IntsAre vs ns) (hl : ns.length ≤ sizeLine)
    (R : ∀ (base : Heap) (H : Hp), K.In base → base.Ns mainGlobals mg → TabsB K mg base → Env0 P w K mg base callerA [] s₁ H → OnlyT H (tabCs K) → (∀ p ∈ tabCs K, H p.2 = some (.tbl #[])) → SqL K H a (ns.map V.int) → codeAny (model P w) callerA (.call (.ref fa) ⟨[.ref a], []⟩) (CR CX0 [] P w H s₁ (fun v _ => v = .bl true) fun _ _ _ => False) s₁) :
    codeAny (model P w) callerA (.call (.ref fa) ⟨[.ref a], []⟩) (fun r s' => r = .ok (.ret (.bool true)) ∧ OldK s₁.heap s'.heap ∧ s'.os = s₁.os ∧ AllBare s'.gens) s₁ := by
  have rel := vals_ints hi
  have tab : ∀ b, b ∈ (tabCs K).map (·.2) → s₁.heap.get? b = some { cls := .none, data := .fields #[] } := fun b hb => by
    obtain ⟨p, hp, rfl⟩ := List.mem_map.mp hb
    exact hTb.e p hp
  have ntab : ∀ {b o}, s₁.heap.get? b = some o → o.data ≠ .fields #[] → b ∉ (tabCs K).map (·.2) := fun e n z => by
    rw [tab _ z] at e
    cases e
    exact n rfl
  have aT : a ∉ (tabCs K).map (·.2) := ntab ha (fun z => nomatch z)
  have go : ∀ H : Hp, GroundG K H a → SqL K H a (ns.map V.int) → HOk P w H s₁.heap → codeAny (model P w) callerA (.call (.ref fa) ⟨[.ref a], []⟩) (fun r s' => r = .ok (.ret (.bool true)) ∧ OldK s₁.heap s'.heap ∧ s'.os = s₁.os ∧ AllBare s'.gens) s₁ := by
    intro H gr sq ok
    have up : ∀ {b o}, s₁.heap.get? b = some o → (∀ us n, o.data ≠ .seq us n) → o.data ≠ .fields #[] → (hidT s₁.heap H).get? b = some o := fun {b o} e n1 n2 => by
      refine hidT_get e (gr.free ?_ (ntab e n2))
      rintro rfl
      rw [ha] at e
      cases e
      exact n1 _ _ rfl
    have ns_ : ∀ {b : Addr} {m : Str → Option Value}, s₁.heap.Ns b m → (hidT s₁.heap H).Ns b m := by
      rintro b m ⟨o, es, ep, e, d, r⟩
      exact ⟨o, es, ep, up e (fun us n z => by rw [d] at z; cases z) (fun z => by rw [d] at z; cases z), d, r⟩
    have kin : K.In (hidT s₁.heap H) := by
      intro b o e
      refine hidT_get (KX b o e) ?_
      have nt : b ∉ (tabCs K).map (·.2) := fun z => by
        obtain ⟨p, hp, rfl⟩ := List.mem_map.mp z
        rw [hTb.n p hp] at e; cases e
      by_cases n : b = a
      · subst n
        cases q : H b with
        | none => rfl
        | some u => rw [gr.kn (by simp [q])] at e; cases e
      · exact gr.free n nt
    have tbs : TabsB K mg (hidT s₁.heap H) := fun p hp => by
      obtain ⟨o, es, ep, e, hd, r⟩ := hns
      obtain ⟨bm, ob, b1, b2, b3, b4, b5, b6⟩ := hbm
      have tp := hTb.e p hp
      refine ⟨?_, ⟨bm, ob, b1, b2, fun z => ?_, fun z => ?_, up b3 (fun us n z => by rw [b6] at z; cases z) (fun z => by rw [b6] at z; cases z), b4, b5, b6⟩, fun z => ?_⟩
      · obtain ⟨oc, us, file, tf, flags, tg, inF, text, tt, c1, c2, c3, c4, cr⟩ := hTb.c p hp
        refine ⟨oc, us, file, tf, flags, tg, inF, text, tt, up c1 (fun us n z => by rw [c3] at z; cases z) (fun z => ?_), c2, c3, c4, cr⟩
        rw [c3] at z
        cases z
        simp at c4
      · rw [z, e] at b3
        cases b3
        rw [hd] at b6
        cases b6
      · rw [z, tp] at b3
        cases b3
        cases b6
      · rw [z, tp] at e
        cases e
        cases hd
    obtain ⟨mc, c1, c2⟩ := hlim
    have e0 : Env0 P w K mg (hidT s₁.heap H) callerA [] s₁ H :=
      ⟨rfl, ⟨kin, ns_ hns, ⟨mb, ns_ hb, hbb⟩, ⟨mc, ns_ c1, c2⟩⟩, fun b o => of_hidT, Nat.le_of_eq (hidT_size _ _), trivial, fun _ z => (nomatch z), ok, .of_eq hg⟩
    refine codeAny_mono (R _ H kin (ns_ hns) tbs e0 gr.on gr.ts sq) fun o s2 ho => ?_
    match o, ho with
    | .ok (.ret u), ⟨v, H2, os, bare, un, ok2, rv, q⟩ =>
      have q2 : v = .bl true := q
      subst q2
      have ru : u = Value.bool true := rv
      subst ru
      have grown : ∀ p ∈ tabCs K, ∃ more : Array Value, s2.heap.get? p.2 = some { cls := .none, data := .fields more } := fun p hp => by
        obtain ⟨more, z⟩ := un.tbls p.2 #[] (gr.ts p hp)
        exact ⟨_, ok2 p.2 _ z⟩
      have rest : ∀ b ob, b ∉ (tabCs K).map (·.2) → s₁.heap.get? b = some ob → s2.heap.get? b = some ob := fun b ob nb e => by
        rcases gr.on b with z | z | ⟨o1, xs, z⟩
        · exact un.keep b ob e z (fun y => nomatch y) (fun y => nomatch y)
        · exact absurd z nb
        · have y := (ok2 b _ (un.frzs b o1 _ z)).1
          have y0 := (ok b _ z).1
          rw [y0] at e
          cases e
          exact y
      refine ⟨rfl, ⟨fun b ob e => ?_, fun b ob e => ?_⟩, os, bare⟩
      · by_cases nb : b ∈ (tabCs K).map (·.2)
        · obtain ⟨p, hp, rfl⟩ := List.mem_map.mp nb
          obtain ⟨more, hm⟩ := grown p hp
          rw [hTb.e p hp] at e
          cases e
          exact .inr (.inl ⟨((hTb.c p hp).tab (hTb.e p hp)).isCodeTable, rfl, #[], more, rfl, by rw [Array.empty_append]; exact hm⟩)
        · exact .inl (rest b ob nb e)
      · by_cases nb : b ∈ (tabCs K).map (·.2)
        · obtain ⟨p, hp, rfl⟩ := List.mem_map.mp nb
          obtain ⟨more, hm⟩ := grown p hp
          exact ⟨_, hm⟩
        · exact ⟨ob, rest b ob nb e⟩
  have memT : ∀ p ∈ tabCs K, p.2 ∈ (tabCs K).map (·.2) := fun p hp => List.mem_map.mpr ⟨p, hp, rfl⟩
  by_cases hk : K.lookup a = none
  · refine go (fun b => if b = a then some (.frz { cls := .type "list", data := .seq vs.toArray } (.lst (ns.map V.int))) else if b ∈ (tabCs K).map (·.2) then some (.tbl #[]) else none) ⟨fun b => ?_, fun p hp => ?_, fun b z => ?_, fun _ => hk⟩ (.inl (.inr ⟨_, if_pos rfl⟩)) fun b u z => ?_
    · by_cases n : b = a
      · exact .inr (.inr ⟨_, _, if_pos n⟩)
      · by_cases m : b ∈ (tabCs K).map (·.2)
        · exact .inr (.inl m)
        · exact .inl ((if_neg n).trans (if_neg m))
    · exact (if_neg (fun z => aT (by rw [← z]; exact memT p hp))).trans (if_pos (memT p hp))
    · by_cases n : b = a
      · exact .inl n
      · by_cases m : b ∈ (tabCs K).map (·.2)
        · exact .inr m
        · exact absurd ((if_neg n).trans (if_neg m)) z
    · dsimp only at z
      by_cases n : b = a
      · rw [if_pos n] at z
        cases z
        rw [n]
        exact ⟨ha, by simpa using hl, vs, _, rel, ha⟩
      · rw [if_neg n] at z
        by_cases m : b ∈ (tabCs K).map (·.2)
        · rw [if_pos m] at z
          cases z
          exact tab b m
        · rw [if_neg m] at z
          cases z
  · obtain ⟨o, ho⟩ := Option.ne_none_iff_exists'.mp hk
    have e := KX a o ho
    rw [ha] at e
    cases e
    refine go (fun b => if b ∈ (tabCs K).map (·.2) then some (.tbl #[]) else none) ⟨fun b => ?_, fun p hp => if_pos (memT p hp), fun b z => ?_, fun z => absurd (if_neg aT) z⟩ (.inr ⟨_, vs.toArray, _, ho, rfl, rfl, rfl, by rw [List.size_toArray, hi.length]; exact hl, by simpa using rel⟩) fun b u z => ?_
    · by_cases m : b ∈ (tabCs K).map (·.2)
      · exact .inr (.inl m)
      · exact .inl (if_neg m)
    · by_cases m : b ∈ (tabCs K).map (·.2)
      · exact .inr m
      · exact absurd (if_neg m) z
    · dsimp only at z
      by_cases m : b ∈ (tabCs K).map (·.2)
      · rw [if_pos m] at z
        cases z
        exact tab b m
      · rw [if_neg m] at z
        cases z
theorem law_callG {P : Program} {w : World} {K : PySem.W.Frag} {mg mb : Str → Option Value} {k : Nat} {fa a : Addr} {fd : FuncData} {x : Str} {s₁ : Shared} {vs : List Value} {ns : List Int}
    (KX : K.In s₁.heap) (hns : s₁.heap.Ns mainGlobals mg) (hb : s₁.heap.Ns builtinsNs mb) (hbb : ∀ y : Str, y ≠ "__name__" → mb y = bootBuiltins y) (hlim : s₁.heap.NoLimit) (hg : s₁.gens = #[]) (hTb : TabH K s₁.heap)
    (hbm : ∃ (bm : Addr) (ob : Obj), mg "__builtins__" = some (.ref bm) ∧ bm ≠ builtinsNs ∧ s₁.heap.get? bm = some ob ∧ ob.cls = .type "module" ∧ ob.dict = some builtinsNs ∧ ob.data = .plain)
    (ha : s₁.heap.get? a = some { cls := .type "list", data := .seq vs.toArray }) (hi : IntsAre vs ns) (hl : ns.length ≤ 63) (hbits : ∀ z ∈ ns, Builtin.Int.intBits z ≤ 1048576) (hr : RoomG k callerA)
    (F : ∀ base : Heap, K.In base → base.Ns mainGlobals mg → TabsB K mg base → FnD P w K mg base CX0 k fa fd [x] spLaw) (hbind : ∀ (s : Shared) (u : Value), BindsTo s fd ⟨[u], []⟩ [(x, u)]) :
    codeAny (model P w) callerA (.call (.ref fa) ⟨[.ref a], []⟩) (fun r s' => r = .ok (.ret (.bool true)) ∧ OldK s₁.heap s'.heap ∧ s'.os = s₁.os ∧ AllBare s'.gens) s₁ := by
  refine Dl.law_coreG KX hns hb hbb hlim hg hTb hbm ha hi (Nat.le_trans hl (by decide)) fun base H b1 b2 b3 e0 hO hT hS => ?_
  exact (F base b1 b2 b3).run callerA [] s₁ H ⟨[.ref a], []⟩ [.ref a] [.ref a] (fun v _ => v = .bl true) (fun _ _ _ => False) hr e0 (hbind s₁ (.ref a)) (.cons rfl .nil) (law_hsp hl hbits hO hT hS)
theorem law_walk {l : PySem.W.OpenLaw} {q : Program} {loose : List Str} {XP : (Str → Option Value) → Heap → Prop} {YP : World → Heap → Prop} {d : DefRec} {K : Params → PySem.W.Frag} {k : Nat} {x : Str} (hn : l.most = some 63) (hdf : d.params.defaults = []) (hr : Room k callerA)
    (hY : ∀ (w : World) (h : Heap), YP w h → (K w.params).In h) (hK : ∀ w : World, PySem.W.noTabs (K w.params) = true)
    (hD : ∀ w : World, ∀ x ∈ lamNames, ∀ cp, PySem.W.tabIn (K w.params) x = some cp → ∃ d, (recsOf q).find? (fun e => e.name == x) = some d)
    (F : ∀ (w : World) (mg : Str → Option Value) (fa : Addr) (h : Heap), (K w.params).In h → h.Ns mainGlobals mg → mg d.name = some (.ref fa) →
      ∃ fd : FuncData, (∀ (s : Shared) (u : Value), BindsTo s fd ⟨[u], []⟩ [(x, u)]) ∧ ∀ base : Heap, (K w.params).In base → base.Ns mainGlobals mg → TabsB (K w.params) mg base → FnD l.prog w (K w.params) mg base CX0 k fa fd [x] spLaw) :
    PySem.W.WalkO q loose XP YP l.row.toRowW d [] (fun f vs => PySem.call f vs) := by
  refine Att.attach_callB hn hdf ?_
  intro w s₀ s₁ mg mb fa o pm cd doc a vs ns G Y ho hd hcd hmg hobj hints hlen hbits hg
  have KX := hY w _ Y
  obtain ⟨fd, hb, hF⟩ := F w mg fa _ KX G.T.g hmg
  have tb : ∀ p ∈ tabCs (K w.params), PySem.W.CodeHd s₁.heap p.1 p.2 ∧ s₁.heap.get? p.2 = some (PySem.W.tabObj #[]) := fun p hp => by
    obtain ⟨x, hx, e⟩ := List.mem_filterMap.mp hp
    obtain ⟨d, hd⟩ := hD w x hx p e
    exact PySem.W.tab_of G.T KX hd e
  have hTb : TabH (K w.params) s₁.heap := ⟨fun p hp => (tb p hp).2, fun p hp => ?_, fun p hp => (tb p hp).1⟩
  · exact law_callG KX G.T.g G.T.b G.T.builtins G.T.nolimit hg hTb G.T.bmain hobj hints hlen hbits ⟨hr, rfl⟩ hF hb
  · cases e : (K w.params).lookup p.2 with
    | none => rfl
    | some o =>
      have e2 := KX _ _ e
      rw [(tb p hp).2] at e2
      cases e2
      have h2 := List.all_eq_true.mp (hK w) (p.2, PySem.W.tabObj #[]) (PySem.W.mem_of_lookupK e)
      exact absurd (show false = true from h2) Bool.false_ne_true
end Dl
namespace Qk24
section
open PySem PySem.W PySem.Calls PyProof.Rows HeadRun
local macro_rules | `(tactic| kernel_rfl) => `(tactic| exact (‹∀ p : Prop, p›) _)
set_option maxHeartbeats 0 in
theorem heads (h : ∀ p : Prop, p) : PySem.Challenge.rw_asshown_k24_uses_refused.Holds := by
  w_on; o_law; k_headL
  case hw => w_witness2
  exact h _
end
section
open PySem PySem.W PySem.Calls PyProof.Rows HeadRun
abbrev hdR : OpenRow := OpenLaw.row PySem.Challenge.rw_asshown_k24_uses_refused
abbrev hdq : Program := view hdR.prog [26, 33, 53]
def hdn0 : List PySem.Str := ["MOST", "WEAR", "WORN", "__name__", "PenError", "NoBook", "NoReading", "NoPlace", "NoNumber", "NoWord", "NoState", "NoRow", "Stuck", "SMALL", "LARGE", "LONGEST", "is_count", "is_small", "is_reading", "is_writing", "is_word", "are_joins", "is_book", "need_book", "need_reading", "is_pair", "need_uses", "times_of", "counted", "worn", "_law_pot", "_law_dip"]
def hdn1 : List PySem.Str := ["_law_text", "_law_cost", "_law_book", "_law_reading", "_law_uses", "_law_odd", "_law_bent_end", "_law_bent", "_law_marks", "_law_signs", "_law_whole", "_law_is_word", "_law_asked", "_law_are_uses", "_law_due", "_law_right"]
def hdn : List PySem.Str := hdn0 ++ hdn1
noncomputable def adrs : List Addr := (heads.heap_39 (aWorld 1).params).map (·.1)
set_option maxHeartbeats 0 in
theorem ek0 (P : Params) : ((heads.heap_39 P).map (·.1) == adrs) = true := by kernel_rfl
theorem ek (P : Params) : adrs = (heads.heap_39 P).map (·.1) := (eq_of_beq (ek0 P)).symm
set_option maxHeartbeats 0 in
theorem run (w : World) (os : OsState) : (endF (stepQ (denQ tabQ) hdR.prog w) 20000 hdR.prog w os).map (fun s => (looksF hdR.prog (boot_heap w.params) s.abs, seenQ hdq hdn (importedModules hdR.prog.main.body) (fun s => xlAt hdq [] s && recOk (RowW.records hdR.toRowW) s) s.abs, adrs.map (getT s))) = some (true, openGood hdq hdn, (heads.heap_39 w.params).map fun x => some x.2) := by
  kernel_rfl
end
end Qk24
namespace Dl
open PySem PySem.Spec PyProof.Rows L2
section
variable {pos p : Pos} {e tg : Expr} {te : ED}
theorem itok_str {K : PySem.W.Frag} {B : List Addr} {H : Hp} {A : List Addr} {s : Sto} {x : Str} : ItOk K B (Its x) (signsD x) noG H A s := by
  intro B' H' A' s' R e p hg i
  have hlen : (signsD x).length = x.cps.size := by simp [signsD]
  refine ⟨fun d hi => ?_, fun hi => show x.cps.size ≤ i by rw [← hlen]; exact hi⟩
  have hn : i < x.cps.size := by
    have := (List.getElem?_eq_some_iff.mp hi).1
    rwa [hlen] at this
  obtain ⟨c, hc⟩ : ∃ c, x.cps[i]? = some c := ⟨_, Array.getElem?_eq_getElem hn⟩
  have hd : d = .str ⟨#[c]⟩ := by
    simp only [signsD, List.getElem?_map, Array.getElem?_toList, hc, Option.map_some] at hi
    exact (Option.some.inj hi).symm
  refine ⟨hn, fun v H2 ⟨eH, c', hc', hx⟩ => ?_⟩
  rw [hc] at hc'; cases hc'
  subst eH hx hd
  exact ⟨R, .refl, .str _ (by show 1 ≤ sizeLine; decide)⟩
theorem sliceApplied_rev {prog : Program} {w : World} {A : Around} {E : Value → Shared → Prop} {s : Shared} {sl : Addr} {vs : Value} {n : Nat} {Q : Int × Int × Nat → Shared → Prop} (hs : s.heap.IsSliceOf sl .none .none vs) (ps : IsPart vs (some (-1)))
    (h : Q ((n : Int) - 1, -1, n) s) : wpAny (model prog w) A (Builtin.Slice.sliceApplied (.ref sl) (pure (n : Int))) Q E s := by
  obtain ⟨os, hos, hcs, hds⟩ := id hs
  unfold Builtin.Slice.sliceApplied Builtin.Slice.sliceFields
  refine wpAny_bind (wpAny_bind (wpAny_field hos hds (x := .none) rfl (wpAny_bind (wpAny_field hos hds (x := .none) rfl (wpAny_bind (wpAny_field hos hds (x := vs) rfl (wpAny_pure ?_)))))))
  refine wpAny_bind (HT.slicePart_ ps ?_)
  show wpAny _ _ (if ((-1 : Int) == 0) = true then _ else _) _ _ s
  rw [if_neg (by decide)]
  refine wpAny_bind (slicePart_none (wpAny_bind (slicePart_none (wpAny_bind (wpAny_pure ?_)))))
  show wpAny _ _ (match Builtin.Slice.sliceAdjust none none (-1) (n : Int) with | (lo, hi) => pure (lo, (-1 : Int), Builtin.Slice.slicePlaces lo hi (-1))) _ _ s
  have e1 : Builtin.Slice.sliceAdjust none none (-1) (n : Int) = ((n : Int) - 1, -1) := by
    unfold Builtin.Slice.sliceAdjust
    rfl
  rw [e1]
  show wpAny _ _ (pure ((n : Int) - 1, (-1 : Int), Builtin.Slice.slicePlaces ((n : Int) - 1) (-1) (-1))) _ _ s
  have e2 : Builtin.Slice.slicePlaces ((n : Int) - 1) (-1) (-1) = n := by
    unfold Builtin.Slice.slicePlaces
    rw [if_neg (by decide)]
    split
    · rw [show (- -1 : Int) = 1 by decide, Int.ediv_one]
      omega
    · omega
  rw [e2]
  exact wpAny_pure h
theorem fm_congr {α β : Type} {f g : α → Option β} : ∀ {l : List α}, (∀ a ∈ l, f a = g a) → l.filterMap f = l.filterMap g
  | [], _ => rfl
  | a :: l, h => by
    rw [List.filterMap_cons, List.filterMap_cons, h a List.mem_cons_self, fm_congr fun b hb => h b (List.mem_cons_of_mem _ hb)]
theorem pick_rev (xs : Array Value) : ((List.range xs.size).filterMap fun (m : Nat) => xs[(((xs.size : Nat) : Int) - 1 + (m : Int) * -1).toNat]?).toArray = xs.toList.reverse.toArray := by
  have e : ((List.range xs.size).filterMap fun (m : Nat) => xs[(((xs.size : Nat) : Int) - 1 + (m : Int) * -1).toNat]?) = ((List.range xs.size).map fun k => xs.size - 1 - k).filterMap (xs[·]?) := by
    rw [List.filterMap_map]
    refine fm_congr fun m hm => ?_
    have hm := List.mem_range.mp hm
    have : (((xs.size : Nat) : Int) - 1 + (m : Int) * -1).toNat = xs.size - 1 - m := by omega
    rw [this]
    rfl
  rw [e, PySem.W.krv_range, List.filterMap_reverse, PySem.W.krv_all]
theorem getItem_tuple_rev {prog : Program} {w : World} {A : Around} {E : Value → Shared → Prop} {s : Shared} {t sl : Addr} {items : Array Value} {vs : Value} {Q : Value → Shared → Prop} (ht : IsTup s.heap t items) (hs : s.heap.IsSliceOf sl .none .none vs) (ps : IsPart vs (some (-1)))
    (h : Q (.ref s.heap.objs.size) { s with heap := s.heap.push { cls := .type "tuple", data := .seq items.toList.reverse.toArray } })
    (hsz : items.size ≤ sizeLine) : wpAny (model prog w) A (getItem (.ref t) (.ref sl)) Q E s := by
  have htake : sizeOk (.seq items.toList.reverse.toArray) := by
    show items.toList.reverse.toArray.size ≤ sizeLine
    rw [List.size_toArray, List.length_reverse, Array.length_toList]
    omega
  obtain ⟨os, hos, hcs, hds⟩ := id hs
  have hTs : s.TypeIs (.ref sl) "slice" := ⟨os, hos, hcs⟩
  unfold getItem
  try with_reducible refine wpAny_holding ?_
  first | refine wpAny_bind (wpAny_pure ?_) | skip
  refine wpAny_bind (wpAny_sequenceKey ht.typeIs (by decide) ?_)
  refine wpAny_bind (wpAny_callSpecial?_slot (name := Str.ofString "__getitem__") ht.typeIs PyProof.Rows.slot_tuple_getitem
    (wpAny_call_entry PyProof.Rows.slot_tuple_getitem ht.typeIs entry_tuple_getitem ?_ (args_tuple_getitem _ _)))
  show wpAny _ _ (Builtin.Tuple.tupleItemsOf (.ref t) >>= _) _ _ s
  refine wpAny_bind (tupleItemsOf_ ht ?_)
  refine wpAny_bind (wpAny_typeOf hTs ?_)
  rw [if_pos (by decide)]
  refine wpAny_bind (sliceApplied_rev hs ps ?_)
  have hno : ¬ ((((items.size : Nat) : Int) - 1 == 0 && (-1 : Int) == 1 && items.size == items.size) = true) := by
    intro q
    rw [Bool.and_eq_true, Bool.and_eq_true] at q
    exact absurd q.1.2 (by decide)
  show wpAny _ _ (if (((items.size : Nat) : Int) - 1 == 0 && (-1 : Int) == 1 && items.size == items.size) = true then _ else _) _ _ s
  rw [if_neg hno, pick_rev]
  first
    | exact wpAny_bind (m := Builtin.Tuple.tupleExact _) (wpAny_newObj_type (wpAny_pure ⟨_, rfl, wpAny_pure h⟩) htake)
    | exact wpAny_bind (m := Builtin.Tuple.tupleExact _) (wpAny_newObj_type (wpAny_bind (wpAny_pure (wpAny_pure ⟨_, rfl, wpAny_pure h⟩))) htake)
    | exact wpAny_bind (wpAny_bind (m := Builtin.Tuple.tupleExact _) (wpAny_newObj_type (wpAny_pure (wpAny_pure ⟨_, rfl, wpAny_pure h⟩)) htake))
    | exact wpAny_bind (wpAny_bind (m := Builtin.Tuple.tupleExact _) (wpAny_newObj_type (wpAny_pure ⟨_, rfl, wpAny_pure h⟩) htake))
def tRevA (K : PySem.W.Frag) (te : TE) : TE := fun σ H Q => te σ H fun x H1 => ∃ a xs, x = .ref a ∧ ((SqL K H1 a xs ∧ ∀ p, H1 p = none → Q (.ref p) (upd H1 p (.lst xs.reverse))) ∨ (SqT K H1 a xs ∧ ∀ p, H1 p = none → Q (.ref p) (upd H1 p (.tup xs.reverse))))
theorem pe_revA {X : Cx} {te : TE} {k : Nat} {p1 p2 p3 : Pos} (he : PE X e te) : PE X (.Subscript e (.Slice none none (some (.UnaryOp .USub (.Constant (.int 1) k p1) p2)) p3) pos) (tRevA X.K te) := by
  refine ⟨fun pins s σ H Q I h => ?_⟩
  refine Subscript_ (thn (he.run pins s σ H _ I h) fun v s1 ⟨x, H1, I1, r1, q1⟩ => ?_)
  obtain ⟨a, xs, ex, hx⟩ := q1
  subst ex
  cases r1
  have hst : PO X (some (.UnaryOp .USub (.Constant (.int 1) k p1) p2)) (tPart (tUn (rU fun i => .int (-i)) (tC (.int 1)))) := po_some (pe_un un_neg pe_int)
  refine wpAny_Slice (thn (po_none.run pins s1 σ H1 (fun o H2 => o = none ∧ H2 = H1) I1 ⟨rfl, rfl⟩) fun vl s2 ⟨l, H2, I2, pl, el, e2⟩ => ?_)
  subst el e2
  refine thn (po_none.run pins s2 σ H2 (fun o H3 => o = none ∧ H3 = H2) I2 ⟨rfl, rfl⟩) fun vu s3 ⟨u, H3, I3, pu, eu, e3⟩ => ?_
  subst eu e3
  refine thn (hst.run pins s3 σ H3 (fun o H4 => o = some (-1) ∧ H4 = H3) I3 ⟨1, rfl, -1, rfl, rfl, rfl⟩) fun vs s4 ⟨o, H4, I4, ps, eo, e4⟩ => ?_
  subst eo e4
  have I5 : Inv X pins σ H4 { s4 with heap := s4.heap.push { cls := .type "slice", data := .fields #[vl, vu, vs] } } := I4.kept (t' := s4.toks) fun b ob q => Heap.get?_push_of_some _ q
  show wpAny (model X.prog X.w) X.A (subscriptTail e (.Slice none none (some (.UnaryOp .USub (.Constant (.int 1) k p1) p2)) p3) (.ref a) (.ref s4.heap.objs.size)) (EP X pins σ Q) X.xe { s4 with heap := s4.heap.push { cls := .type "slice", data := .fields #[vl, vu, vs] } }
  cases pl
  cases pu
  rcases hx with ⟨hx, q⟩ | ⟨hx, q⟩
  · obtain ⟨its, r, ht, hz⟩ := I5.list hx
    have hlen := r.length
    refine tail_any (ops := [.ref a, .ref s4.heap.objs.size]) ht.isList.typeIs (PySem.slot_list_getitem.lookup) ?_ (by with_unfolding_all rfl)
    refine wpAny_getItem_list_slice ht.isList (Heap.IsSliceOf.new _ .none .none vs) .none .none ps (by decide) ?_ (by rw [List.size_toArray]; omega)
    rw [PySem.W.krv_pick]
    refine ⟨.ref _, _, I5.laid (t' := s4.toks) (o := .lst xs.reverse) (fun b ob q => Heap.get?_push_of_some _ q) (Nat.le_refl _) ?_, rfl, q _ (I5.hok.fresh (Nat.le_refl _))⟩
    exact ⟨by rw [List.length_reverse]; exact hz, _, 0, r.reverse, Heap.get?_push_size _ rfl⟩
  · obtain ⟨its, r, ht, hz⟩ := I5.tuple hx
    have hlen : its.toArray.size = xs.length := by rw [List.size_toArray]; exact r.length.symm
    refine tail_any (ops := [.ref a, .ref s4.heap.objs.size]) ht.typeIs (PyProof.Rows.slot_tuple_getitem.lookup) ?_ (by with_unfolding_all rfl)
    refine getItem_tuple_rev ht (Heap.IsSliceOf.new _ .none .none vs) ps ?_ (by rw [hlen]; exact hz)
    refine ⟨.ref _, _, I5.laid (t' := s4.toks) (o := .tup xs.reverse) (fun b ob q => Heap.get?_push_of_some _ q) (Nat.le_refl _) ?_, rfl, q _ (I5.hok.fresh (Nat.le_refl _))⟩
    exact ⟨by rw [List.length_reverse]; exact hz, _, r.reverse, IsTup.new _ _⟩
def revF (s : Sto) (x : D) : Option D := match x with
  | .tup xs => some (.tup xs.reverse)
  | x => (seqL s x).map fun xs => .lst xs.reverse
theorem pd_rev {X : DX} {k : Nat} {p1 p2 p3 : Pos} (he : PD X e te) : PD X (.Subscript e (.Slice none none (some (.UnaryOp .USub (.Constant (.int 1) k p1) p2)) p3) pos) (dUn revF te) := by
  refine ⟨pe_imp (pe_revA he.pe) fun σ H Q ⟨env, s, A, B, w, h⟩ => ?_, mono_un he.mono⟩
  refine rdE_go he.mono w h fun x s1 v H1 A1 ⟨z, ez, q⟩ w1 e1 dv => ?_
  have q := PostE.from e1 q
  unfold revF at ez
  split at ez
  · cases ez
    cases dv with
    | tup h1 h2 => exact ⟨_, _, rfl, .inr ⟨sqT_fz h1, fun p hp => q.new w1.rs hp fun F e f => .tup (.of f) (h2.reverse.mono e fun _ _ h => h)⟩⟩
  · cases hs : seqL s1 x with
    | none => rw [hs] at ez; cases ez
    | some xs =>
      rw [hs] at ez
      cases ez
      obtain ⟨a, vs, rfl, h1, h2⟩ := of_seqL w1.rs dv hs
      exact ⟨_, _, rfl, .inl ⟨h1, fun p hp => q.new w1.rs hp fun F e f => .lst f (h2.reverse.mono e fun _ _ h => h)⟩⟩
theorem rep_toList (a : Array Nat) : ∀ (n : Nat) (acc : Array Nat), ((List.replicate n a).foldl (· ++ ·) acc).toList = acc.toList ++ (List.replicate n a.toList).flatten
  | 0, acc => by simp
  | n + 1, acc => by
    rw [List.replicate_succ, List.foldl_cons, rep_toList a n, List.replicate_succ, List.flatten_cons, Array.toList_append, List.append_assoc]
def repS (a : Str) (n : Nat) : Str := ⟨(List.replicate n a.cps.toList).flatten.toArray⟩
theorem repS_length (a : Str) (n : Nat) : (repS a n).length = n * a.length := by
  show (List.replicate n a.cps.toList).flatten.toArray.size = _
  rw [List.size_toArray, List.length_flatten]
  simp [Str.length]
def mulS (_ : Sto) (x y : D) : Option D := match x, y with
  | .str a, .int n => if n.toNat * a.length ≤ 100000 ∧ a.length ≤ 100000 ∧ -1000000 ≤ n ∧ n ≤ 1000000 then some (.str (repS a n.toNat)) else none
  | _, _ => none
theorem op_mulS {X : Cx} : OpR X (binaryOp .Mult) (fun x y H Q => ∃ a n, x = .str a ∧ y = .int n ∧ (n.toNat * a.length ≤ 100000 ∧ a.length ≤ 100000 ∧ -1000000 ≤ n ∧ n ≤ 1000000) ∧ Q (.str (repS a n.toNat)) H) := by
  intro pins s σ H x y v u Q I rx ry h
  obtain ⟨a, n, rfl, rfl, ⟨h1, h2, h3, h4⟩, q⟩ := h
  obtain ⟨t, rfl⟩ := rx
  obtain ⟨t', rfl⟩ := ry
  refine PySem.P.mul_str ?_ (fun g1 g2 => ?_) (fun g1 g2 => ?_) ?_
  · rw [decide_eq_false (by omega), decide_eq_false (by omega)]; rfl
  · intro z
    have e : (2 ^ 63 - 1 : Int) / 1000000 ≤ (2 ^ 63 - 1) / n := Int.le_ediv_of_mul_le (by omega) (Int.le_trans (Int.mul_le_mul_of_nonneg_left h4 (by decide)) (by decide))
    have e2 : (9223372036854 : Int) = (2 ^ 63 - 1) / 1000000 := by decide
    omega
  · refine decide_eq_false fun z => ?_
    have : sizeLine = 16777216 := sizeLine_eq
    rw [Nat.mul_comm] at h1
    omega
  · have key : ∀ t2 k, EP X pins σ Q (.str (repS a n.toNat) t2) { s with toks := k } := fun t2 k => ⟨.str (repS a n.toNat), H, I.tok _, ⟨_, rfl⟩, q⟩
    by_cases c1 : n < 1
    · rw [if_pos c1]
      have e : Str.empty = repS a n.toNat := by
        have : n.toNat = 0 := by omega
        rw [this]; rfl
      refine ⟨by decide, ?_⟩
      rw [e]
      exact key _ _
    · rw [if_neg c1]
      by_cases c2 : (n == 1 || a.length == 0) = true
      · rw [if_pos c2]
        have e : a = repS a n.toNat := by
          have c3 := Bool.or_eq_true_iff.mp c2
          have ha : a = ⟨a.cps.toList.toArray⟩ := by simp
          rcases c3 with c3 | c3
          · have : n.toNat = 1 := by have := eq_of_beq c3; omega
            rw [this]
            show a = ⟨(List.replicate 1 a.cps.toList).flatten.toArray⟩
            simp
          · have hz : a.cps.toList = [] := by
              have := eq_of_beq c3
              have h0 : a.cps.size = 0 := this
              rw [← Array.length_toList] at h0
              exact List.eq_nil_of_length_eq_zero h0
            have hb : ∀ m : Nat, (List.replicate m ([] : List Nat)).flatten = [] := fun m => by
              induction m with
              | zero => rfl
              | succ m ih => rw [List.replicate_succ, List.flatten_cons, ih]; rfl
            show a = ⟨(List.replicate n.toNat a.cps.toList).flatten.toArray⟩
            rw [hz, hb]
            rw [ha, hz]
        rw [e]
        exact key _ _
      · rw [if_neg c2]
        have e : (⟨(List.replicate n.toNat a.cps).foldl (· ++ ·) #[]⟩ : Str) = repS a n.toNat := by
          have := rep_toList a.cps n.toNat #[]
          unfold repS
          congr 1
          apply Array.ext'
          rw [this]
          simp
        rw [e]
        refine ⟨?_, key _ _⟩
        show (repS a n.toNat).length ≤ sizeLine
        rw [repS_length, sizeLine_eq]
        omega
theorem opx_mulS {X : Cx} : OpX X (binaryOp .Mult) (oF mulS) := opx_of op_mulS fun x y s v w H A B Q R dv dw ⟨z, e, q⟩ => by
  unfold mulS at e
  split at e
  · split at e
    · rename_i hc
      cases e
      cases dv
      cases dw
      refine ⟨_, _, rfl, rfl, hc, q.here R (.str _ ?_)⟩
      rw [repS_length]
      have : sizeLine = 16777216 := sizeLine_eq
      omega
    · cases e
  · cases e
theorem opx_mul {X : Cx} : OpX X (binaryOp .Mult) (oOr (oIIc MulOk fun i j => .int (i * j)) (oF mulS)) := opx_mul_ii.or opx_mulS
theorem call_str_bool {X : Cx} : CallR X (.type "str") (fun xs H Q => ∃ b, xs = [.bl b] ∧ Q (.str (if b then "True" else "False")) H) := by
  intro pins s σ H xs us Q I r h
  obtain ⟨b, rfl, q⟩ := h
  obtain ⟨u, rfl, r1⟩ := vals1 r
  cases r1
  exact PySem.P.str_of_bool ⟨.str _, H, I.tok _, ⟨_, rfl⟩, q⟩
def strF (_ : Sto) : List D → Option D
  | [.int i] => if i.natAbs.log2 < 1920 then some (.str (toString i)) else none
  | [.bl b] => some (.str (if b then "True" else "False"))
  | [.str a] => some (.str a)
  | _ => none
theorem str_int_fits {i : Int} (h : i.natAbs.log2 < 1920) : (Str.ofString (toString i)).length ≤ sizeLine := int_text_fits h
theorem callx_str {X : Cx} : CallX X (.type "str") strF := by
  refine ⟨_, ((call_str_int.or call_str_bool).or SkE.call_str_str), fun xs s vs H A B Q z R dv e q => ?_⟩
  unfold strF at e
  split at e
  · split at e
    · rename_i hz
      cases e
      obtain ⟨v, rfl, d⟩ := one_of dv
      cases d
      exact .inl (.inl ⟨_, rfl, hz, q.here R (.str _ (str_int_fits hz))⟩)
    · cases e
  · cases e
    obtain ⟨v, rfl, d⟩ := one_of dv
    cases d
    exact .inl (.inr ⟨_, rfl, q.here R (.str _ (by rename_i b; cases b <;> decide))⟩)
  · cases e
    obtain ⟨v, rfl, d⟩ := one_of dv
    cases d with
    | str _ hz => exact .inr ⟨_, rfl, q.here R (.str _ hz)⟩
  · cases e
theorem pd_dk1 {X : DX} {k : Str} {j : Int} {n1 n2 : Nat} {p1 p2 : Pos} : PD X (.Dict [some (.Constant (.str k) n1 p1)] [.Constant (.int j) n2 p2] pos) (dC (.dk [.inr k] [.int j])) := by
  refine ⟨pe_imp (pe_disp (pps_cons pe_str pe_int pps_nil) rfl rfl (by simp) (Nat.le_of_lt (by show 1 < 15; decide))) fun σ H Q ⟨env, s, A, B, w, q⟩ p hp => ?_, mono_c⟩
  refine ⟨upd_same, [(.inr k, .int j)], rfl, Nat.le_of_lt (by show 1 < 15; decide), ?_⟩
  have e : upd (upd H p (.dK [])) p (.dK (mergeK [] [(.inr k, .int j)])) = upd H p (.dK [(.inr k, .int j)]) := by
    funext a
    by_cases h : a = p
    · subst h; rw [upd_same, upd_same]; rfl
    · rw [upd_ne h, upd_ne h, upd_ne h]
  rw [e]
  exact q.new w.rs hp fun F e f => .dk (kvs := [(.inr k, .int j)]) f (.cons (.int _) .nil)
end
end Dl
namespace Dl
open PySem PySem.Spec PyProof.Rows L2
section
variable {pos p : Pos} {e tg : Expr} {te : ED}
def iAny (K : PySem.W.Frag) (tl : TE) : TI := fun σ H R => tl σ H fun x H1 => (∃ a, x = .ref a ∧ (∃ xs, SqL K H1 a xs) ∧ R (Itl K a) H1) ∨ (∃ a, x = .ref a ∧ (∃ xs, SqT K H1 a xs) ∧ R (Itt K a) H1) ∨ ∃ z, x = .str z ∧ R (Its z) H1
theorem pi_any {X : Cx} {tl : TE} (hl : PE X e tl) : PI X tg e (iAny X.K tl) := by
  refine ⟨fun pins s σ H R I h => ?_⟩
  refine thn (hl.run pins s σ H _ I h) fun v s1 ⟨x, H1, I1, r1, q1⟩ => ?_
  rcases q1 with ⟨a, ex, ⟨xs, hq⟩, q⟩ | ⟨a, ex, ⟨xs, hq⟩, q⟩ | ⟨z, ex, q⟩
  · subst ex
    cases r1
    obtain ⟨its, rv, p, hz⟩ := I1.list hq
    refine wpAny_pyIter_list p.isList ?_
    refine ⟨s1.heap.objs.size, [s1.heap.objs.size], _, _, H1, rfl, I1.kept (t' := s1.toks) fun b o e => Heap.get?_push_of_some _ e, turn_list a _, ⟨_, Heap.get?_push_size _ rfl, rfl, rfl⟩, fun b hb => ?_, q⟩
    have e : b = s1.heap.objs.size := by simpa using hb
    subst e
    exact I1.fpOk (Nat.le_refl _) (I1.hok.fresh (Nat.le_refl _))
  · subst ex
    cases r1
    obtain ⟨its, rv, p, hz⟩ := I1.tuple hq
    refine wpAny_pyIter_tuple (show s1.heap.IsTuple a its.toArray from p) ?_
    refine ⟨s1.heap.objs.size, [s1.heap.objs.size], _, _, H1, rfl, I1.kept (t' := s1.toks) fun b o e => Heap.get?_push_of_some _ e, turn_tuple a _, ⟨_, Heap.get?_push_size _ rfl, rfl, rfl⟩, fun b hb => ?_, q⟩
    have e : b = s1.heap.objs.size := by simpa using hb
    subst e
    exact I1.fpOk (Nat.le_refl _) (I1.hok.fresh (Nat.le_refl _))
  · subst ex
    obtain ⟨t, rfl⟩ := r1
    cases ha : z.cps.all (· < 128)
    · exact wpAny_pyIter_wide ha (pi_one (tk := s1.toks) I1 _ (turn_str _ z t "str_iterator" (.inr rfl)) ⟨_, Heap.get?_push_size _ rfl, rfl, rfl⟩ q)
    · exact wpAny_pyIter_ascii ha (pi_one (tk := s1.toks) I1 _ (turn_str _ z t "str_ascii_iterator" (.inl rfl)) ⟨_, Heap.get?_push_size _ rfl, rfl, rfl⟩ q)
def isW (s : Sto) (x : D) (ds : List D) (g : Sto → Prop) : Prop := isL s x ds g ∨ (x = .tup ds ∧ g = noG) ∨ ∃ z, x = .str z ∧ ds = signsD z ∧ g = noG
def iW (te : ED) : ID := fun env s R => te env s fun x s1 => ∃ ds g, isW s1 x ds g ∧ R ds g s1
theorem mono_iW (me : Mono te) : MonoI (iW te) := fun _ _ _ _ f h => me _ _ _ _ (fun _ _ ⟨ds, g, e, q⟩ => ⟨ds, g, e, f _ _ _ q⟩) h
theorem pid_any {X : DX} (he : PD X e te) : PID X tg e (iW te) :=
  ⟨pi_imp (pi_any he.pe) fun σ H R ⟨env, s, A, B, w, h⟩ => rdE_go he.mono w h fun x s1 v H1 A1 ⟨ds, g, hx, q⟩ w1 e1 dv => by
    rcases hx with hx | ⟨rfl, rfl⟩ | ⟨z, rfl, rfl, rfl⟩
    · obtain ⟨a, vs, ea, hs, hd, ok⟩ := isL_rd w1.rs dv hx
      exact .inl ⟨a, ea, ⟨vs, hs⟩, q _ _ _ w1.rs e1 ok⟩
    · cases dv with
      | tup hs hd => exact .inr (.inl ⟨_, rfl, ⟨_, sqT_fz hs⟩, q _ _ _ w1.rs e1 (itok_tup (fun B' H' A' s' R' e p _ => sqT_fz (hs.same e)) hd)⟩)
    · cases dv
      exact .inr (.inr ⟨z, rfl, q _ _ _ w1.rs e1 itok_str⟩), mono_iW he.mono⟩
theorem isW_lst {s : Sto} {ds : List D} : isW s (.lst ds) ds noG := .inl (.inl ⟨rfl, rfl⟩)
theorem isW_str {s : Sto} {z : Str} : isW s (.str z) (signsD z) noG := .inr (.inr ⟨z, rfl, rfl, rfl⟩)
theorem pd_gintE {X : DX} {x : Str} {i : Int} (hg : Gl X x) (hm : ∃ t, X.mg x = some (.int i t)) (hd : (x == ("__debug__" : Str)) = false := by decide) : PD X (.Name x pos) (dC (.int i)) := let ⟨_, h⟩ := hm; pd_gint hg h hd
theorem pd_gstrE {X : DX} {x z : Str} (hg : Gl X x) (hm : ∃ t, X.mg x = some (.str z t)) (hz : z.length ≤ sizeLine := by decide +kernel) (hd : (x == ("__debug__" : Str)) = false := by decide) : PD X (.Name x pos) (dC (.str z)) := let ⟨_, h⟩ := hm; pd_gstr hg h hz hd
end
def Kn (P : Program) (w : World) (K : PySem.W.Frag) (mg : Str → Option Value) (base : Heap) (x : Str) (k : Nat) (ps : List Str) (sp : SpD) : Prop :=
  ∃ (f : Addr) (fd : FuncData), FnD P w K mg base CX0 k f fd ps sp ∧ mg x = some (.ref f) ∧ PySem.W.keepIn K (.ref f) = true ∧ Binds K fd ps []
def At (K : PySem.W.Frag) (mg : Str → Option Value) (x : Str) (st : Stmt) (ps : List Str) : Prop :=
  ∃ (f : Addr) (fd : FuncData), Fun K x x st f fd ∧ mg x = some (.ref f) ∧ Binds K fd ps []
theorem Kn.mk {P : Program} {w : World} {K : PySem.W.Frag} {mg : Str → Option Value} {base : Heap} {x : Str} {st : Stmt} {N ps : List Str} {k : Nat} {sp : SpD} {tb : SD} (a : At K mg x st ps) (S : FnScope N ps (defScope st)) (mono : MonoSp sp)
    (len : ∀ ds s Q E, sp ds s Q E → ds.length = ps.length)
    (body : ∀ (f : Addr) (cdv : Value) (A : Around) (outer : List PySem.Env) (s : Shared) (H : Hp) (E : XK), RoomG k (A.deeper (envOfC x (defScope st) s.heap.objs.size f cdv)) → PSsD (dx0 (cxOf CX0 P w K mg base N x (defScope st) f cdv A outer s H E).nox) (defBody st) tb)
    (h : ∀ ds s Q E, sp ds s Q E → tb (endsOf Q) (envD N ds) s) : Kn P w K mg base x (k + 1) ps sp := by
  obtain ⟨f, fd, F, hm, hb⟩ := a
  exact ⟨f, fd, fnD F S mono len (body f) h, hm, F.kp, hb⟩
def KnX (P : Program) (w : World) (K : PySem.W.Frag) (mg : Str → Option Value) (base : Heap) (x : Str) (k : Nat) (ps : List Str) (sp : SpD) : Prop :=
  ∃ (f : Addr) (fd : FuncData), FnD P w K mg base (L2N.CX P w) k f fd ps sp ∧ mg x = some (.ref f) ∧ PySem.W.keepIn K (.ref f) = true ∧ Binds K fd ps []
theorem KnX.mk {P : Program} {w : World} {K : PySem.W.Frag} {mg : Str → Option Value} {base : Heap} {x : Str} {st : Stmt} {N ps : List Str} {k : Nat} {sp : SpD} {tb : WXD → SD} (a : At K mg x st ps) (S : FnScope N ps (defScope st)) (mono : MonoSp sp)
    (len : ∀ ds s Q E, sp ds s Q E → ds.length = ps.length)
    (body : ∀ (f : Addr) (cdv : Value) (A : Around) (outer : List PySem.Env) (s : Shared) (H : Hp) (E : XK) (B0 A0 : List Addr) (s0 : Sto), RoomG k (A.deeper (envOfC x (defScope st) s.heap.objs.size f cdv)) →
      PSsD (dxR P w K mg base N x (defScope st) f cdv A outer s H E rfl B0 A0 s0) (defBody st) (tb fun y fs _ s' => PostX K mg B0 H A0 s0 E y fs s'))
    (h : ∀ ds s Q E, sp ds s Q E → tb (fun y fs _ s' => E y fs s') (endsOf Q) (envD N ds) s) : KnX P w K mg base x (k + 1) ps sp := by
  obtain ⟨f, fd, F, hm, hb⟩ := a
  exact ⟨f, fd, fnDX F S mono len (body f) h, hm, F.kp, hb⟩
def spNo : SpD := fun _ _ _ _ => False
theorem Kn.no {P : Program} {w : World} {K : PySem.W.Frag} {mg : Str → Option Value} {base : Heap} {x : Str} {st : Stmt} {N ps : List Str} (a : At K mg x st ps) (S : FnScope N ps (defScope st)) : Kn P w K mg base x 1 ps spNo := by
  obtain ⟨f, fd, F, hm, hb⟩ := a
  exact ⟨f, fd, fnD (tb := dNever) (k := 0) F S (fun _ _ _ _ _ _ _ _ h => h) (fun _ _ _ _ h => h.elim) (fun _ _ _ _ _ _ _ => pssd_never) (fun _ _ _ _ h => h.elim), hm, F.kp, hb⟩
theorem Kn.up {P : Program} {w : World} {K : PySem.W.Frag} {mg : Str → Option Value} {base : Heap} {x : Str} {ps : List Str} {j k : Nat} {sp : SpD} (c : Kn P w K mg base x j ps sp) (h : j ≤ k) : Kn P w K mg base x k ps sp := by
  obtain ⟨f, fd, F, h1, h2, h3⟩ := c
  exact ⟨f, fd, F.up h, h1, h2, h3⟩
section
variable {pos p : Pos} {k : Nat} {ps : List Str} {sp : SpD} {x : Str} {e : Expr} {es : List Expr} {t : AD}
theorem pd_kn {X : DX} (c : Kn X.prog X.w X.K X.mg X.base x k ps sp) (hr : RoomG k X.A) (hg : Gl X x) (ha : PAD X (e :: es) t)
    (h1 : starEach (e :: es) X.env = (false, eval e X.env) :: starEach es X.env := by rfl) (hpl : (backTo pos (starEach es X.env)).any (·.1) = false := by rfl) (hdb : (x == ("__debug__" : Str)) = false := by decide) : PD X (.Call (.Name x p) (e :: es) [] pos) (dCall sp [] t) := by
  obtain ⟨f, fd, F, hm, hk, hb⟩ := c
  exact pd_call F hr hg hm hk hb .nil (fun _ _ => .nil) ha h1 hpl hdb
theorem pd_knX {X : DX} (c : KnX X.prog X.w X.K X.mg X.base x k ps sp) (hr : RoomG k X.A) (hg : Gl X x) (ha : PAD X (e :: es) t)
    (h1 : starEach (e :: es) X.env = (false, eval e X.env) :: starEach es X.env := by rfl) (hpl : (backTo pos (starEach es X.env)).any (·.1) = false := by rfl) (hdb : (x == ("__debug__" : Str)) = false := by decide) : PD X (.Call (.Name x p) (e :: es) [] pos) (dCallX X.WD sp [] t) := by
  obtain ⟨f, fd, F, hm, hk, hb⟩ := c
  exact pd_callX F hr hg hm hk hb .nil (fun _ _ => .nil) ha h1 hpl hdb
end
abbrev oMul : O2 := oOr (oIIc MulOk fun i j => .int (i * j)) (oF mulS)
abbrev oMod : O2 := oIIc (fun _ j => 0 < j) fun i j => .int (i % j)
abbrev oDiv : O2 := oIIc DivOk fun i j => .int (i / j)
abbrev oPow : O2 := oIIc PowOk fun i j => .int (i ^ j.toNat)
section
variable {env : En} {s : Sto} {Q : D → Sto → Prop} {QT : Bool → Sto → Prop} {QA : List D → Sto → Prop} {E : EndsD} {t u c : TD} {a b : ED} {tr : AD} {d : D} {i : Nat} {o o' : O2} {ta tb tc : ED} {S S' : SD} {f : Sto → D → Option D} {g : Sto → List D → Option D}
@[simp] theorem r_var : dVar i env s Q = ∃ d, env[i]? = some (some d) ∧ Q d s := rfl
@[simp] theorem r_c : dC d env s Q = Q d s := rfl
@[simp] theorem r_bin : dBin o ta tb env s Q = ta env s fun x s1 => tb env s1 fun y s2 => o x y s2 Q := rfl
@[simp] theorem r_oF {f : Sto → D → D → Option D} {x y : D} : oF f x y s Q = ∃ z, f s x y = some z ∧ Q z s := rfl
@[simp] theorem r_un : dUn f ta env s Q = ta env s fun x s1 => ∃ z, f s1 x = some z ∧ Q z s1 := rfl
@[simp] theorem r_cb : dCB g tr env s Q = tr env s fun xs s1 => ∃ z, g s1 xs = some z ∧ Q z s1 := rfl
@[simp] theorem r_test : dTest ta env s QT = ta env s fun x s1 => ∃ k, x = .bl k ∧ QT k s1 := rfl
@[simp] theorem r_and : dAnd t u env s QT = t env s fun k s1 => if k = true then u env s1 QT else QT false s1 := rfl
@[simp] theorem r_or : dOr t u env s QT = t env s fun k s1 => if k = true then QT true s1 else u env s1 QT := rfl
@[simp] theorem r_not : dNot t env s QT = t env s fun k s1 => QT (!k) s1 := rfl
@[simp] theorem r_andV : dAndV ta tb env s Q = ta env s fun x s1 => ∃ k, x = .bl k ∧ if k = true then tb env s1 Q else Q (.bl false) s1 := rfl
@[simp] theorem r_notV : dNotV ta env s Q = ta env s fun x s1 => ∃ k, x = .bl k ∧ Q (.bl (!k)) s1 := rfl
@[simp] theorem r_ifE : dIf t ta tb env s Q = t env s fun k s1 => if k = true then ta env s1 Q else tb env s1 Q := rfl
@[simp] theorem r_chain : dChain o o' ta tb tc env s Q = ta env s fun x s1 => tb env s1 fun y s2 => o x y s2 fun z s3 => ∃ k, z = .bl k ∧ if k = true then tc env s3 fun u s4 => o' y u s4 Q else Q (.bl false) s3 := rfl
@[simp] theorem r_nil : dNil env s QA = QA [] s := rfl
@[simp] theorem r_cons : dCons ta tr env s QA = ta env s fun x s1 => tr env s1 fun xs s2 => QA (x :: xs) s2 := rfl
@[simp] theorem r_tup : dTup tr env s Q = tr env s fun xs s1 => xs.length ≤ sizeLine ∧ Q (.tup xs) s1 := rfl
@[simp] theorem r_lst : dLst tr env s Q = tr env s fun xs s1 => xs.length ≤ sizeLine ∧ Q (.lst xs) s1 := rfl
@[simp] theorem r_new : dNew tr env s Q = tr env s fun xs s1 => xs.length ≤ sizeLine ∧ Q (.ref s1.length) (s1 ++ [some (.lst xs)]) := rfl
@[simp] theorem r_frz : dFrz ta env s Q = ta env s fun x s1 => ∃ l xs, x = .ref l ∧ s1[l]? = some (some (.lst xs)) ∧ Q (.lst xs) (s1.set l none) := rfl
@[simp] theorem r_call {sp : SpD} {dds : List D} : dCall sp dds tr env s Q = tr env s fun xs s1 => sp (xs ++ dds) s1 Q fun _ _ _ => False := rfl
@[simp] theorem r_mt {f : List D → List D → Option (D × List D)} : dMt f ta tr env s Q = ta env s fun o s1 => ∃ l ds0, o = .ref l ∧ s1[l]? = some (some (.lst ds0)) ∧ tr env s1 fun xs s2 => ∃ ds z ds', s2[l]? = some (some (.lst ds)) ∧ f ds xs = some (z, ds') ∧ Q z (s2.set l (some (.lst ds'))) := rfl
@[simp] theorem r_join : dJoin ta tb env s Q = ta env s fun o s1 => ∃ a, o = .str a ∧ tb env s1 fun x s2 => ∃ ds ys, seqA s2 x = some ds ∧ strsOf ds = some ys ∧ (ys.map (·.length)).sum + ys.length * a.length ≤ 16777216 ∧ Q (.str (Txt.join a ys)) s2 := rfl
@[simp] theorem r_next : dNext E env s = E.nx env s := rfl
@[simp] theorem r_seq : dSeq S S' E env s = S { E with nx := S' E } env s := rfl
@[simp] theorem r_ret : dRet ta E env s = ta env s E.rt := rfl
@[simp] theorem r_drop : dDrop ta E env s = ta env s fun _ s1 => E.nx env s1 := rfl
@[simp] theorem r_if : dIfS c S S' E env s = c env s fun b s1 => if b = true then S E env s1 else S' E env s1 := rfl
@[simp] theorem r_asg {g : GD} : dAsg ta g E env s = ta env s fun d s1 => g d env s1 E.nx := rfl
@[simp] theorem r_gN {P : En → Sto → Prop} : gN i d env s P = P (env.set i (some d)) s := rfl
@[simp] theorem r_gTs {is : List Nat} {P : En → Sto → Prop} : gTs is d env s P = ∃ ds, d = .tup ds ∧ ds.length = is.length ∧ P (setE env is ds) s := rfl
@[simp] theorem r_gIx {P : En → Sto → Prop} : gIx ta tb d env s P = ta env s fun o s1 => tb env s1 fun i s2 => ∃ l xs k j, o = .ref l ∧ i = .int k ∧ s2[l]? = some (some (.lst xs)) ∧ ixN xs.length k = some j ∧ P env (s2.set l (some (.lst (xs.set j d)))) := rfl
@[simp] theorem r_sl {tl th : OD} : dSl ta tl th env s Q = ta env s fun x s1 => tl env s1 fun lo s2 => th env s2 fun hi s3 => ∃ z, sliceF s3 x lo hi = some z ∧ Q z s3 := rfl
@[simp] theorem r_noP {P : Option Int → Sto → Prop} : dNoP env s P = P none s := rfl
@[simp] theorem r_p {P : Option Int → Sto → Prop} : dP ta env s P = ta env s fun x s1 => ∃ i, x = .int i ∧ P (some i) s1 := rfl
@[simp] theorem r_endsN {Q : D → Sto → Prop} : (endsOf Q).nx env s = Q .non s := rfl
@[simp] theorem r_endsR {Q : D → Sto → Prop} : (endsOf Q).rt = Q := rfl
@[simp] theorem r_setE0 {is : List Nat} : setE env is [] = env := by cases is <;> rfl
@[simp] theorem r_setE1 {is : List Nat} {ds : List D} : setE env (i :: is) (d :: ds) = setE (env.set i (some d)) is ds := rfl
end
end Dl
namespace Dl
open PySem PySem.Spec PyProof.Rows L2
section
variable {g : Sto → Prop} {tg : GD} {tt : TD} {te : ED} {env : En}
theorem lcD_pure (p : D → Bool) (f : D → D) : ∀ {ds : List D} {s : Sto} {Q : List D → Sto → Prop}, g s →
    (∀ d ∈ ds, ∀ (k1 : D → Sto → Prop) (k0 : Sto → Prop), (p d = true → k1 (f d) s) → (p d = false → k0 s) → tg d env s fun env1 s1 => tt env1 s1 fun b s2 => if b = true then te env1 s2 k1 else k0 s2) →
    Q ((ds.filter p).map f) s → lcD g tg tt te env ds s Q
  | [], s, Q, hg, _, q => ⟨hg, q⟩
  | d :: ds, s, Q, hg, h, q => ⟨hg, h d List.mem_cons_self _ _ (fun hp => lcD_pure p f hg (fun d' hd' => h d' (List.mem_cons_of_mem _ hd')) (by rw [List.filter_cons, if_pos hp] at q; exact q))
      fun hp => lcD_pure p f hg (fun d' hd' => h d' (List.mem_cons_of_mem _ hd')) (by rw [List.filter_cons, if_neg (by rw [hp]; exact Bool.false_ne_true)] at q; exact q)⟩
theorem lcD_run (I : List D → List D → Sto → Prop)
    (step : ∀ d rest acc s, I (d :: rest) acc s → ∀ (k1 : D → Sto → Prop) (k0 : Sto → Prop), (∀ y s', I rest (acc ++ [y]) s' → k1 y s') → (∀ s', I rest acc s' → k0 s') →
      g s ∧ tg d env s fun env1 s1 => tt env1 s1 fun b s2 => if b = true then te env1 s2 k1 else k0 s2) : ∀ {ds acc : List D} {s : Sto} {Q : List D → Sto → Prop}, I ds acc s → (∀ ys s', I [] (acc ++ ys) s' → g s' ∧ Q ys s') → lcD g tg tt te env ds s Q
  | [], acc, s, Q, h, done => done [] s (by rw [List.append_nil]; exact h)
  | d :: ds, acc, s, Q, h, done => step d ds acc s h _ _ (fun y s' h' => lcD_run I step h' fun ys s4 h4 => by
      have := done (y :: ys) s4 (by rw [List.append_assoc] at h4; exact h4)
      exact this) fun s' h' => lcD_run I step h' done
theorem forD_run {tb : SD} {E : EndsD} (I : List D → En → Sto → Prop)
    (step : ∀ d rest env s, I (d :: rest) env s → ∀ (N : En → Sto → Prop), (∀ e s', I rest e s' → N e s') → g s ∧ tg d env s fun env1 s1 => tb ⟨N, E.rt, E.nx, N⟩ env1 s1)
    (done : ∀ env s, I [] env s → g s ∧ E.nx env s) : ∀ {ds : List D} {env : En} {s : Sto}, I ds env s → forD g tg tb E ds env s
  | [], env, s, h => done env s h
  | d :: ds, env, s, h => step d ds env s h _ fun e s' h' => forD_run I step done h'
end
theorem le_line {n : Nat} (h : n ≤ 1000000) : n ≤ sizeLine := Nat.le_trans h (by rw [sizeLine_eq]; decide)
theorem ll {n : Nat} (h : Nat.ble n 1000 = true := by rfl) : n ≤ sizeLine := le_line (Nat.le_trans (Nat.le_of_ble_eq_true h) (by decide))
theorem addl {s : Sto} {a b : List D} (h : a.length + b.length ≤ sizeLine) : addF s (.lst a) (.lst b) = some (.lst (a ++ b)) := by
  show (if a.length + b.length ≤ sizeLine then _ else _) = _
  rw [if_pos h]
theorem addt {s : Sto} {a b : List D} (h : a.length + b.length ≤ sizeLine) : addF s (.tup a) (.tup b) = some (.tup (a ++ b)) := by
  show (if a.length + b.length ≤ sizeLine then _ else _) = _
  rw [if_pos h]
theorem adds {s : Sto} {a b : Str} (h : a.length + b.length ≤ sizeLine) : addF s (.str a) (.str b) = some (.str (a ++ b)) := by
  show (if a.length + b.length ≤ sizeLine then _ else _) = _
  rw [if_pos h]
theorem ixN_in {n : Nat} {i : Int} (h0 : 0 ≤ i) (h1 : i < n) : ixN n i = some i.toNat := by
  unfold ixN
  rw [if_pos h0, if_pos h1]
theorem atI_in {α : Type} {xs : List α} {i : Int} (h0 : 0 ≤ i) (h1 : i < xs.length) : atI xs i = xs[i.toNat]? := by
  unfold atI
  rw [ixN_in h0 h1]
  rfl
theorem atI_mem {α : Type} {xs : List α} {i : Int} (h0 : 0 ≤ i) (h1 : i < xs.length) : ∃ x, atI xs i = some x ∧ x ∈ xs := by
  have h : i.toNat < xs.length := by omega
  exact ⟨xs[i.toNat], by rw [atI_in h0 h1]; exact List.getElem?_eq_getElem h, List.getElem_mem h⟩
@[simp] theorem sIx_n (n d : Nat) : HT.sIx n d none = d := rfl
theorem sIx_some {n d : Nat} {i : Int} (h : 0 ≤ i) : HT.sIx n d (some i) = min i.toNat n := by
  obtain ⟨k, rfl⟩ : ∃ k : Nat, i = (k : Int) := ⟨i.toNat, by omega⟩
  rw [HT.sIx_nat]
  rfl
theorem cutD_to {α : Type} {xs : List α} {i : Int} (h : 0 ≤ i) : cutD xs none (some i) = xs.take i.toNat := by
  unfold cutD
  rw [sIx_n, sIx_some h, List.drop_zero, Nat.sub_zero]
  rw [Nat.min_def]
  split
  · rfl
  · rw [List.take_of_length_le (Nat.le_refl _), List.take_of_length_le (by omega)]
theorem cutD_from {α : Type} {xs : List α} {i : Int} (h : 0 ≤ i) : cutD xs (some i) none = xs.drop i.toNat := by
  unfold cutD
  rw [sIx_n, sIx_some h]
  by_cases hi : i.toNat ≤ xs.length
  · rw [Nat.min_eq_left hi, List.take_of_length_le (by rw [List.length_drop]; omega)]
  · rw [Nat.min_eq_right (by omega), List.drop_of_length_le (Nat.le_refl _), List.drop_of_length_le (by omega)]
    simp
theorem cutD_mid {α : Type} {xs : List α} {i j : Int} (h : 0 ≤ i) (hj : 0 ≤ j) : cutD xs (some i) (some j) = (xs.take j.toNat).drop i.toNat := by
  unfold cutD
  rw [sIx_some h, sIx_some hj, List.drop_take]
  by_cases hi : i.toNat ≤ xs.length
  · rw [Nat.min_eq_left hi]
    by_cases h2 : j.toNat ≤ xs.length
    · rw [Nat.min_eq_left h2]
    · rw [Nat.min_eq_right (by omega)]
      rw [List.take_of_length_le (by rw [List.length_drop]; omega), List.take_of_length_le (by rw [List.length_drop]; omega)]
  · rw [Nat.min_eq_right (a := i.toNat) (b := xs.length) (by omega), List.drop_of_length_le (Nat.le_refl _), List.drop_of_length_le (i := i.toNat) (by omega)]
    simp
def big : Nat := 2 ^ 200
mutual
def szB (n : Nat) : D → Bool
  | .non => true
  | .bl _ => true
  | .int i => decide (i.natAbs ≤ big + n)
  | .str a => decide (a.length ≤ n)
  | .tup xs => decide (xs.length ≤ n) && szL n xs
  | .lst xs => decide (xs.length ≤ n) && szL n xs
  | .frl _ => false
  | .dk _ _ => true
  | .dt _ _ => true
  | .ref _ => false
  | .exc _ _ _ => false
def szL (n : Nat) : List D → Bool
  | [] => true
  | x :: xs => szB n x && szL n xs
end
theorem szL_iff {n : Nat} : ∀ {xs : List D}, szL n xs = true ↔ ∀ x ∈ xs, szB n x = true
  | [] => by simp [szL]
  | x :: xs => by
    rw [szL, Bool.and_eq_true, szL_iff (xs := xs)]
    simp
@[simp] theorem sz_tup {n : Nat} {xs : List D} : szB n (.tup xs) = true ↔ xs.length ≤ n ∧ ∀ x ∈ xs, szB n x = true := by rw [szB, Bool.and_eq_true, szL_iff, decide_eq_true_iff]
@[simp] theorem sz_lst {n : Nat} {xs : List D} : szB n (.lst xs) = true ↔ xs.length ≤ n ∧ ∀ x ∈ xs, szB n x = true := by rw [szB, Bool.and_eq_true, szL_iff, decide_eq_true_iff]
@[simp] theorem sz_str {n : Nat} {a : Str} : szB n (.str a) = true ↔ a.length ≤ n := by rw [szB, decide_eq_true_iff]
@[simp] theorem sz_int {n : Nat} {i : Int} : szB n (.int i) = true ↔ i.natAbs ≤ big + n := by rw [szB, decide_eq_true_iff]
@[simp] theorem sz_non {n : Nat} : szB n .non = true := rfl
@[simp] theorem sz_bl {n : Nat} {b : Bool} : szB n (.bl b) = true := rfl
@[simp] theorem sz_dk {n : Nat} {ks : List Key} {xs : List D} : szB n (.dk ks xs) = true := rfl
@[simp] theorem sz_frl {n : Nat} {xs : List D} : szB n (.frl xs) = false := rfl
@[simp] theorem sz_ref {n : Nat} {l : Nat} : szB n (.ref l) = false := rfl
mutual
theorem szB_mono {n m : Nat} (h : n ≤ m) : ∀ (x : D), szB n x = true → szB m x = true
  | .non, _ => rfl
  | .bl _, _ => rfl
  | .int i, q => by rw [sz_int] at q ⊢; omega
  | .str a, q => by rw [sz_str] at q ⊢; omega
  | .tup xs, q => by
    rw [szB, Bool.and_eq_true, decide_eq_true_iff] at q ⊢
    exact ⟨by omega, szL_mono h xs q.2⟩
  | .lst xs, q => by
    rw [szB, Bool.and_eq_true, decide_eq_true_iff] at q ⊢
    exact ⟨by omega, szL_mono h xs q.2⟩
  | .frl _, q => by cases q
  | .dk _ _, _ => rfl
  | .dt _ _, _ => rfl
  | .ref _, q => by cases q
  | .exc _ _ _, q => by cases q
theorem szL_mono {n m : Nat} (h : n ≤ m) : ∀ (xs : List D), szL n xs = true → szL m xs = true
  | [], _ => rfl
  | x :: xs, q => by
    rw [szL, Bool.and_eq_true] at q ⊢
    exact ⟨szB_mono h x q.1, szL_mono h xs q.2⟩
end
theorem mulOk_of {a b : Int} {m n : Nat} (ha : a.natAbs < 2 ^ m) (hb : b.natAbs < 2 ^ n) (h : m + n ≤ 134217728) : MulOk a b := IntMulOk.of_le (intBits_le_iff.mpr ha) (intBits_le_iff.mpr hb) h
theorem powOk_of {a : Int} {j : Int} {m : Nat} (ha : Builtin.Int.intBits a ≤ m) (h2 : 2 ≤ j) (h : (m : Int) * j ≤ 134217728) : PowOk a j := ⟨h2, Int.le_trans (Int.mul_le_mul_of_nonneg_right (by exact_mod_cast ha) (by omega)) h⟩
theorem divOk_of {i j : Int} (h : 0 < j) (h2 : j < 2 ^ 200) : DivOk i j := by
  refine ⟨h, ?_⟩
  have : j.natAbs < 2 ^ 200 := by omega
  have := (Nat.log2_lt (by omega : j.natAbs ≠ 0)).mpr this
  omega
end Dl
namespace Dl
open PySem PySem.Spec PyProof.Rows L2
section
variable {s : Sto}
@[simp] theorem ty_non : tyName s .non = some "NoneType" := rfl
@[simp] theorem ty_bl {b : Bool} : tyName s (.bl b) = some "bool" := rfl
@[simp] theorem ty_int {i : Int} : tyName s (.int i) = some "int" := rfl
@[simp] theorem ty_str {a : Str} : tyName s (.str a) = some "str" := rfl
@[simp] theorem ty_tup {xs : List D} : tyName s (.tup xs) = some "tuple" := rfl
@[simp] theorem ty_lst {xs : List D} : tyName s (.lst xs) = some "list" := rfl
@[simp] theorem ty_dk {ks : List Key} {xs : List D} : tyName s (.dk ks xs) = some "dict" := rfl
@[simp] theorem ty_dt {ks : List (List Key)} {xs : List D} : tyName s (.dt ks xs) = some "dict" := rfl
@[simp] theorem sz_dt {n : Nat} {ks : List (List Key)} {xs : List D} : szB n (.dt ks xs) = true := rfl
@[simp] theorem lt_ii {i j : Int} : ltF s (.int i) (.int j) = some (.bl (decide (i < j))) := rfl
@[simp] theorem le_ii {i j : Int} : leF s (.int i) (.int j) = some (.bl (decide (i ≤ j))) := rfl
@[simp] theorem ge_ii {i j : Int} : geF s (.int i) (.int j) = some (.bl (decide (j ≤ i))) := rfl
@[simp] theorem gtB_ii {i j : Int} : gtBF s (.int i) (.int j) = some (.bl (decide (j < i))) := rfl
@[simp] theorem gtB_bi {k : Bool} {j : Int} : gtBF s (.bl k) (.int j) = some (.bl (decide (j < b2n k))) := rfl
@[simp] theorem add_ii {i j : Int} : addF s (.int i) (.int j) = some (.int (i + j)) := rfl
@[simp] theorem add_bi {k : Bool} {j : Int} : addF s (.bl k) (.int j) = some (.int (b2n k + j)) := rfl
@[simp] theorem add_ib {k : Bool} {j : Int} : addF s (.int j) (.bl k) = some (.int (j + b2n k)) := rfl
@[simp] theorem add_ss {a b : Str} : addF s (.str a) (.str b) = if a.length + b.length ≤ sizeLine then some (.str (a ++ b)) else none := rfl
@[simp] theorem add_tt {a b : List D} : addF s (.tup a) (.tup b) = if a.length + b.length ≤ sizeLine then some (.tup (a ++ b)) else none := rfl
@[simp] theorem add_ll {a b : List D} : addF s (.lst a) (.lst b) = if a.length + b.length ≤ sizeLine then some (.lst (a ++ b)) else none := rfl
@[simp] theorem sub_ii {i j : Int} : subF s (.int i) (.int j) = some (.int (i - j)) := rfl
@[simp] theorem sub_bi {k : Bool} {j : Int} : subF s (.bl k) (.int j) = some (.int (b2n k - j)) := rfl
@[simp] theorem sub_ib {k : Bool} {j : Int} : subF s (.int j) (.bl k) = some (.int (j - b2n k)) := rfl
@[simp] theorem neg_i {i : Int} : negF s (.int i) = some (.int (-i)) := rfl
@[simp] theorem idx_t {xs : List D} {i : Int} : idxF s (.tup xs) (.int i) = atI xs i := rfl
@[simp] theorem idx_l {xs : List D} {i : Int} : idxF s (.lst xs) (.int i) = atI xs i := rfl
@[simp] theorem idx_f {xs : List D} {i : Int} : idxF s (.frl xs) (.int i) = atI xs i := rfl
@[simp] theorem idx_s {z : Str} {i : Int} : idxF s (.str z) (.int i) = (atI z.cps.toList i).map fun c => .str ⟨#[c]⟩ := rfl
theorem idx_r {l : Nat} {xs : List D} {i : Int} (h : s[l]? = some (some (.lst xs))) : idxF s (.ref l) (.int i) = atI xs i := by
  show (match seqL s (.ref l) with | some xs => atI xs i | none => none) = _
  rw [seqL_ref h]
@[simp] theorem len_s {z : Str} : lenF s [.str z] = some (.int z.length) := rfl
@[simp] theorem len_t {xs : List D} : lenF s [.tup xs] = some (.int xs.length) := rfl
@[simp] theorem len_l {xs : List D} : lenF s [.lst xs] = some (.int xs.length) := rfl
@[simp] theorem len_f {xs : List D} : lenF s [.frl xs] = some (.int xs.length) := rfl
@[simp] theorem len_dk {ks : List Key} {xs : List D} : lenF s [.dk ks xs] = some (.int ks.length) := rfl
@[simp] theorem len_dt {ks : List (List Key)} {xs : List D} : lenF s [.dt ks xs] = some (.int ks.length) := rfl
@[simp] theorem min_ii {i j : Int} : min2F s [.int i, .int j] = some (.int (if j < i then j else i)) := rfl
@[simp] theorem max_ii {i j : Int} : max2F s [.int i, .int j] = some (.int (if j > i then j else i)) := rfl
@[simp] theorem int_i {i : Int} : intF s [.int i] = some (.int i) := rfl
@[simp] theorem int_b {k : Bool} : intF s [.bl k] = some (.int (b2n k)) := rfl
@[simp] theorem abs_i {i : Int} : absF s [.int i] = some (.int (if i < 0 then -i else i)) := rfl
@[simp] theorem all_l {bs : List Bool} : allF s [.lst (bs.map D.bl)] = some (.bl (bs.all id)) := by
  show (match seqL s (.lst (bs.map D.bl)) with | some ds => (blsOf ds).map fun (bs : List Bool) => D.bl (bs.all id) | none => none) = _
  rw [seqL_lst]
  show (blsOf (bs.map D.bl)).map _ = _
  rw [blsOf_map]
  rfl
@[simp] theorem list_t {xs : List D} : listF s [.tup xs] = some (.lst xs) := rfl
@[simp] theorem list_l {xs : List D} : listF s [.lst xs] = some (.lst xs) := rfl
@[simp] theorem tuple_t {xs : List D} : tupleF s [.tup xs] = some (.tup xs) := rfl
@[simp] theorem tuple_l {xs : List D} : tupleF s [.lst xs] = some (.tup xs) := rfl
@[simp] theorem seqA_t {xs : List D} : seqA s (.tup xs) = some xs := rfl
@[simp] theorem seqA_l {xs : List D} : seqA s (.lst xs) = some xs := rfl
@[simp] theorem rev_t {xs : List D} : revF s (.tup xs) = some (.tup xs.reverse) := rfl
@[simp] theorem rev_l {xs : List D} : revF s (.lst xs) = some (.lst xs.reverse) := rfl
@[simp] theorem slice_t {xs : List D} {i j : Option Int} : sliceF s (.tup xs) i j = some (.tup (cutD xs i j)) := rfl
@[simp] theorem slice_l {xs : List D} {i j : Option Int} : sliceF s (.lst xs) i j = some (.lst (cutD xs i j)) := rfl
@[simp] theorem slice_f {xs : List D} {i j : Option Int} : sliceF s (.frl xs) i j = some (.lst (cutD xs i j)) := rfl
@[simp] theorem slice_s {z : Str} {i j : Option Int} : sliceF s (.str z) i j = some (.str ⟨(cutD z.cps.toList i j).toArray⟩) := rfl
@[simp] theorem str_i {i : Int} : strF s [.int i] = if i.natAbs.log2 < 1920 then some (.str (toString i)) else none := rfl
@[simp] theorem str_b {b : Bool} : strF s [.bl b] = some (.str (if b then "True" else "False")) := rfl
@[simp] theorem b2n_t : b2n true = 1 := rfl
@[simp] theorem b2n_f : b2n false = 0 := rfl
@[simp] theorem drf_non : drf s .non = .non := rfl
@[simp] theorem drf_bl {b : Bool} : drf s (.bl b) = .bl b := rfl
@[simp] theorem drf_int {i : Int} : drf s (.int i) = .int i := rfl
@[simp] theorem drf_str {z : Str} : drf s (.str z) = .str z := rfl
@[simp] theorem drf_tup {xs : List D} : drf s (.tup xs) = .tup xs := rfl
@[simp] theorem drf_lst {xs : List D} : drf s (.lst xs) = .lst xs := rfl
@[simp] theorem iIIc {c : Int → Int → Prop} {g : Int → Int → D} {i j : Int} {Q : D → Sto → Prop} : oIIc c g (.int i) (.int j) s Q = (c i j ∧ Q (g i j) s) := by
  apply propext
  constructor
  · rintro ⟨a, b, e1, e2, h⟩
    cases e1; cases e2
    exact h
  · intro h
    exact ⟨i, j, rfl, rfl, h⟩
theorem eq_ii {i j : Int} : eqF s (.int i) (.int j) = some (.bl (i == j)) := rfl
theorem ne_ii {i j : Int} : neF s (.int i) (.int j) = some (.bl (!(i == j))) := rfl
theorem eq_ss {i j : Str} : eqF s (.str i) (.str j) = some (.bl (i == j)) := rfl
theorem eq_l0 {xs : List D} : eqF s (.lst xs) (.lst []) = some (.bl (decide (xs = []))) := by
  cases xs <;> rfl
theorem ne_l0 {xs : List D} : neF s (.lst xs) (.lst []) = some (.bl (!decide (xs = []))) := by
  cases xs <;> rfl
end
section
def sgnIn (r z : Str) : Bool := z.cps.toList.all fun c => decide (c ∈ r.cps.toList)
theorem signsD_mem {z : Str} {d : D} (h : d ∈ signsD z) : ∃ c, d = .str ⟨#[c]⟩ ∧ c ∈ z.cps.toList := by
  obtain ⟨c, hc, rfl⟩ := List.mem_map.mp h
  exact ⟨c, rfl, hc⟩
theorem signsD_length {z : Str} : (signsD z).length = z.length := by simp [signsD, Str.length]
def sgnOf : D → Nat
  | .str z => z.cps.getD 0 0
  | _ => 0
theorem all_signs {env : En} {s : Sto} {Q : D → Sto → Prop} {r z : Str} {i j : Nat} (hz : z.length ≤ sizeLine) (hi : env[i]? = some (some (.str z))) (hj : j < env.length) (q : Q (.bl (sgnIn r z)) s) :
    dCB allF (dCons (dLc (iW (dVar i)) (CT.g (.one j)) dYes (dBin (oOr (oInS id) (oIn id)) (dVar j) (dC (.str r))) [j]) dNil) env s Q := by
  refine ⟨_, hi, _, _, isW_str, by rw [signsD_length]; exact hz, ?_⟩
  refine lcD_pure (fun _ => true) (fun d => .bl (decide (sgnOf d ∈ r.cps.toList))) trivial (fun d hd k1 k0 h1 h0 => ?_) ?_
  · obtain ⟨c, rfl, hc⟩ := signsD_mem hd
    exact ⟨_, List.getElem?_set_self (by rw [wipeE_length]; exact hj), .inl ⟨c, r, rfl, rfl, h1 rfl⟩⟩
  · refine ⟨.bl (sgnIn r z), ?_, q⟩
    have e : ((signsD z).filter fun _ => true).map (fun d => D.bl (decide (sgnOf d ∈ r.cps.toList))) = (z.cps.toList.map fun c => decide (c ∈ r.cps.toList)).map D.bl := by
      rw [List.filter_eq_self.mpr (fun _ _ => rfl)]
      unfold signsD
      rw [List.map_map, List.map_map]
      rfl
    show allF s [.lst _] = _
    rw [e, all_l]
    unfold sgnIn
    rw [List.all_map]
    rfl
theorem out_signs {env : En} {s : Sto} {Q : D → Sto → Prop} {r z : Str} {i j l : Nat} (hz : z.length ≤ sizeLine) (hi : env[i]? = some (some (.str z))) (hj : j < env.length) (hl : env[l]? = some (some (.str r))) (hlj : j ≠ l) (q : Q (.bl (sgnIn r z)) s) :
    dBin (oF eqF) (dLc (iW (dVar i)) (CT.g (.one j)) (dTest (dBin (oOr (oInS Bool.not) (oIn Bool.not)) (dVar j) (dVar l))) (dVar j) [j]) (dLst dNil) env s Q := by
  refine ⟨_, hi, _, _, isW_str, by rw [signsD_length]; exact hz, ?_⟩
  refine lcD_pure (fun d => !decide (sgnOf d ∈ r.cps.toList)) id trivial (fun d hd k1 k0 h1 h0 => ?_) ?_
  · obtain ⟨c, rfl, hc⟩ := signsD_mem hd
    have hs : (wipeE env [j])[l]? = some (some (.str r)) := by
      show (env.set j none)[l]? = _
      rw [List.getElem?_set_ne hlj]
      exact hl
    refine ⟨_, List.getElem?_set_self (by rw [wipeE_length]; exact hj), _, by rw [List.getElem?_set_ne hlj]; exact hs, .inl ⟨c, r, rfl, rfl, _, rfl, ?_⟩⟩
    by_cases h : c ∈ r.cps.toList
    · have h2 : decide (sgnOf (.str ⟨#[c]⟩) ∈ r.cps.toList) = true := decide_eq_true h
      have e : decide (c ∈ r.cps.toList) = true := decide_eq_true h
      rw [e]
      exact h0 (by rw [h2]; rfl)
    · have h2 : decide (sgnOf (.str ⟨#[c]⟩) ∈ r.cps.toList) = false := decide_eq_false h
      have e : decide (c ∈ r.cps.toList) = false := decide_eq_false h
      rw [e]
      exact ⟨_, List.getElem?_set_self (by rw [wipeE_length]; exact hj), h1 (by rw [h2]; rfl)⟩
  · refine ⟨Nat.zero_le _, _, eq_l0, ?_⟩
    have e : decide (((signsD z).filter fun d => !decide (sgnOf d ∈ r.cps.toList)).map id = []) = sgnIn r z := by
      rw [List.map_id]
      unfold sgnIn
      cases h : z.cps.toList.all fun c => decide (c ∈ r.cps.toList) with
      | true =>
        refine decide_eq_true (List.filter_eq_nil_iff.mpr fun d hd => ?_)
        obtain ⟨c, rfl, hc⟩ := signsD_mem hd
        have := List.all_eq_true.mp h c hc
        have h2 : decide (sgnOf (.str ⟨#[c]⟩) ∈ r.cps.toList) = true := this
        rw [h2]; decide
      | false =>
        refine decide_eq_false fun e => ?_
        have h3 : (z.cps.toList.all fun c => decide (c ∈ r.cps.toList)) = true := List.all_eq_true.mpr fun c hc => by
          have := List.filter_eq_nil_iff.mp e (.str ⟨#[c]⟩) (List.mem_map.mpr ⟨c, hc, rfl⟩)
          have h4 : ¬ ((!decide (c ∈ r.cps.toList)) = true) := this
          simpa using h4
        rw [h3] at h; cases h
    rw [e]
    exact q
end
end Dl
namespace Dl
open PySem PySem.Spec PyProof.Rows L2
theorem setT {X : Cx} {ps : List (Addr × Obj)} {σ : L2.St} {H : Hp} {s : Shared} {E : Value → Shared → Prop} {C q : Addr} {es : List (List Key × V)} {k : List Key} {z : V} {r : Value} {Q : Unit → Shared → Prop} (hu : X.A.units + 1 < cLine) (J : Inv X ps σ H s)
    (hC : H C = some (.dT es)) (hq : H q = some (.tup (k.map kV))) (hl : es.length < sizeLine) (hz : RelV z r) (fin : ∀ s', Inv X ps σ (upd H C (.dT (putK es k z))) s' → Q () s') : wpAny (model X.prog X.w) X.A (dictSet C (.ref q) r) Q E s := by
  obtain ⟨le, nm, xs, kt, od⟩ := dt_of J.hok hC
  have sz1 : xs.length ≤ sizeLine := by rw [← Paired.length kt]; exact le
  have sz2 : (putK es k z).length ≤ sizeLine := Nat.le_trans (length_putK es k z) hl
  refine wpAny_dictSet_heap (hsz := sz1) (show (tupleKind (mixKind X.prog X.w)).room X.A from Nat.lt_of_succ_lt hu) (key_of J.hok hq) od fun h' od' same => fin _ ?_
  obtain ⟨o, ens, ver, ho, c1, c2, c3, _, c5⟩ := od'
  exact d_write J (by rw [hC]; exact True.intro) same ⟨o, ho⟩ ⟨sz2, nm, _, (kt.put k hq hz).keeps fun c ys ec => by rw [upd_ne (ne_of ec hC fun w => nomatch w)]; exact ec, o, ens, ver, ho, c1, c2, c3, c5⟩
section
def tDcT (wi : TI) (g : TG) (tt : TT) (tk tv : TE) (vs : List Nat) : TE := fun σ H Q => wi σ H fun J H1 => ∀ N, H1 N = none → ∃ W : Nat → Nat → Hp → Prop, (∃ m, W 0 m (upd H1 N (.dT []))) ∧ ∀ i m H, W i m H →
  (J.stop i H ∧ Q (.ref N) H) ∨ (J.go i H ∧ ∃ P : Hp → Prop, (∀ H', P H' → ∃ m', m' < m ∧ W (i + 1) m' H') ∧ ∀ x H', J.yld i H x H' → g x (L2.wipe σ vs) H' fun σ2 H2 => L2.wipe σ2 vs = L2.wipe σ vs ∧ tt σ2 H2 fun b H3 =>
    if b = true then tk σ2 H3 fun y H4 => tv σ2 H4 fun z H5 => ∃ es k q, y = .ref q ∧ H5 q = some (.tup (k.map kV)) ∧ H5 N = some (.dT es) ∧ es.length < sizeLine ∧ P (upd H5 N (.dT (putK es k z))) else P H3)
theorem dcT_core {X : Cx} {ps : List (Addr × Obj)} {s : Shared} {σ : L2.St} {H : Hp} {Q : VK} {kx vx tg iter : Expr} {ifs : List Expr} {sc : Scope} {own : List (Str × Nat)} {pos pos' : Pos} {wi : TI} {g : TG} {tt : TT} {tk tv : TE} {use : Option (Value → Sem Unit)} {Qf : Value → Shared → Prop}
    (hc : X.calm = true) (hu : X.A.units + 1 < cLine) (hN : X.N.Nodup) (J0 : Inv X ps σ H s) (hi : PI X tg iter wi) (ok : BlkOk X.N X.env.scope sc own) (hg : ∀ s H C cl fp, PG (X.blk s H sc (compEnvC sc cl C X.env) fp) tg g) (ht : ∀ s H C cl fp, PTs (X.blk s H sc (compEnvC sc cl C X.env) fp) ifs tt)
    (hk : ∀ s H C cl fp, PE (X.blk s H sc (compEnvC sc cl C X.env) fp) kx tk) (hv : ∀ s H C cl fp, PE (X.blk s H sc (compEnvC sc cl C X.env) fp) vx tv) (hs : ∀ x, foldedSetIterable iter X.env x = pure x) (rd : tDcT wi g tt tk tv (own.map (·.2)) σ H Q)
    (back : ∀ N C s' m H', Inv X ps σ H' s' → Q (.ref N) H' → s'.heap.Ns C m → FpOk X ps H' C → compPost (model X.prog X.w) X.A X.xe use Qf (.ref N) C (.ok .next) s') :
    wpAny (model X.prog X.w) X.A (comprehension (.DictComp kx vx [⟨tg, iter, ifs, 0⟩] sc pos) sc X.env pos' newDict false (eval iter X.env) use) Qf X.xe s := by
  have free : ∀ nm ∈ sc.names, nm.2 = .free → ∃ c, X.env.cells.lookup nm.1 = some c := fun nm hnm e => (ok.free nm hnm e).elim (fun z => J0.ok.has _ (.inl z)) fun z => J0.ok.has _ (.inr z)
  refine wpAny_comprehension_free (use := use) rfl hs (closure_ok free) ok.kind (fun nm hnm e => by rw [ok.uniq nm hnm, e]) (thn (hi.run ps s σ H _ J0 rd) fun xv s1 hx => thn hx fun itv s2 h2 => ?_)
  obtain ⟨it, fp, tn, J, H2, rfl, J2, T, t2, f2, q⟩ := h2
  refine wpAny_newObj_type (newEnv_comp ?_)
  generalize eN : s2.heap.objs.size = N
  obtain ⟨W, ⟨m0, w0⟩, turn⟩ := q N (J2.hok.fresh (Nat.le_of_eq eN))
  generalize e3 : ({ s2 with heap := s2.heap.push { cls := .type "dict", data := .dict #[] } } : Shared) = s3
  have hp3 : s3.heap = s2.heap.push { cls := .type "dict", data := .dict #[] } := by rw [← e3]
  have J3 : Inv X ps σ (upd H2 N (.dT [])) s3 := by
    rw [← e3]
    exact J2.laid (t' := s2.toks) (fun b o e => Heap.get?_push_of_some _ e) (Nat.le_of_eq eN) (by rw [← eN]; exact dt_empty s2.heap J2.big)
  have low : ∀ b ∈ fp, b < s2.heap.objs.size := fun b hb => let ⟨o, e, _⟩ := T.obj _ _ t2 b hb; Heap.lt_size e
  have f3 : ∀ b ∈ fp, FpOk X ps (upd H2 N (.dT [])) b ∧ b < s3.heap.objs.size := fun b hb => ⟨⟨by rw [upd_ne (by rw [← eN]; exact Nat.ne_of_lt (low b hb))]; exact (f2 b hb).1, (f2 b hb).2⟩, by rw [hp3, Heap.size_push]; exact Nat.lt_succ_of_lt (low b hb)⟩
  have t3 : tn 0 s3.heap := T.keep _ _ _ t2 fun b _ o e => by rw [hp3]; exact Heap.get?_push_of_some _ e
  have J4 := block_start J3 ok hN f3
  generalize eC : s3.heap.objs.size = C at J4 f3
  generalize ecl : cellsFrom (C + 1) sc.names (cloFrom X.env.cells sc.names []) = cl at J4
  show codeAny _ _ (.compStart (.DictComp kx vx [⟨tg, iter, ifs, 0⟩] sc pos) 0 (.ref it) (.ref N) (compEnvC sc cl C X.env)) (compPost (model X.prog X.w) X.A X.xe use Qf (.ref N) C) { s3 with heap := pushCells (s3.heap.push { cls := .type "dict", data := .dict #[] }) sc.names }
  generalize e3H : upd H2 N (.dT []) = H3 at J3 J4 w0 f3
  have pg := hg s3 H3 C cl fp
  have pt := ht s3 H3 C cl fp
  have pk := hk s3 H3 C cl fp
  have pv := hv s3 H3 C cl fp
  have none3 : ∀ b ∈ fp, H3 b = none := fun b hb => (f3 b hb).1.1
  generalize ece : compEnvC sc cl C X.env = ce at J4 pg pt pk pv ⊢
  have atC : ce.locals = C := by subst ece; rfl
  generalize e4 : ({ s3 with heap := pushCells (s3.heap.push { cls := .type "dict", data := .dict #[] }) sc.names } : Shared) = s4 at J4 ⊢
  have t4 : tn 0 s4.heap := T.keep _ _ _ t3 fun b _ o e => by rw [← e4]; exact pushCells_keeps _ _ _ _ (Heap.get?_push_of_some _ e)
  have calmFp : ∀ {σ' : L2.St} {H' : Hp} {s' : Shared}, Inv (X.blk s3 H3 sc ce fp) [] σ' H' s' → (∀ b ∈ fp, H' b = none) → ∀ b ∈ fp, FpOk (X.blk s3 H3 sc ce fp) [] H' b := fun {σ' H' s'} J' n b hb =>
    ⟨n b hb, (J'.ok.exf b hb).1, J'.ok.exfs b hb, .inl hb, fun x c e => (J'.ok.exf b hb).2 x c e, fun p hp => absurd (show p ∈ ([] : List (Addr × Obj)) ++ [] from hp) (by simp)⟩
  have run : codeAny (model X.prog X.w) X.A (.compLoop (.DictComp kx vx [⟨tg, iter, ifs, 0⟩] sc pos) 0 (.ref it) (.ref N) ce) (compPost (model X.prog X.w) X.A X.xe use Qf (.ref N) C) s4 := by
    refine compLoop_anyD (fun n s' => ∃ i H', Inv (X.blk s3 H3 sc ce fp) [] (L2.wipe σ (own.map (·.2))) H' s' ∧ tn i s'.heap ∧ (∀ b ∈ fp, H' b = none) ∧ W i n H') ?_ m0 ⟨0, H3, J4, t4, none3, w0⟩
    rintro n s5 ⟨i, H5, J5, t5, n5, w5⟩
    rcases turn i n H5 w5 with ⟨stop, qq⟩ | ⟨go, P, hP, step⟩
    · refine thnF (T.done (X.blk s3 H3 sc ce fp) rfl rfl rfl hc i [] s5 _ H5 (fun _ _ => False) J5 (calmFp J5 n5) t5 stop) fun r s6 ⟨hr, J6⟩ => ?_
      subst hr
      have J7 : Inv X ps σ H5 s6 := J3.call' (ch := fp) J6.os J6.base J6.hok J6.bare fun b hb => ⟨(f3 b hb).1.2.2.2.1, (f3 b hb).1.2.1, (f3 b hb).1.2.2.2.2.1, (f3 b hb).1.2.2.2.2.2⟩
      have noC : H5 C = none := by rw [← atC]; exact J6.free
      obtain ⟨m, hn, _⟩ := J6.loc
      have hn : s6.heap.Ns ce.locals m := hn
      exact back N C s6 m H5 J7 qq (by rw [← atC]; exact hn) (J3.fpOk (Nat.le_of_eq eC) noC)
    · refine thnF (T.item (X.blk s3 H3 sc ce fp) rfl rfl rfl hc i [] s5 _ H5 (fun _ _ => False) J5 (calmFp J5 n5) t5 go) fun r s6 ⟨u, hr, h6⟩ => ?_
      subst hr
      refine thnF h6 fun _ s7 ⟨x, H7, J7, r7, y7, t7, n7⟩ => ?_
      refine thnF (pg.run _ s7 _ H7 x u _ (J7.pinned (calmFp J7 n7) (T.obj _ _ t7)) r7 (step x H7 y7)) fun _ s8 ⟨σ8, H8, J8, w8, q8⟩ => ?_
      refine thnF (pt.run _ s8 σ8 H8 _ J8 q8) fun b s9 ⟨H9, J9, q9⟩ => ?_
      have onward : ∀ {s' : Shared} {H' : Hp}, Inv (X.blk s3 H3 sc ce fp) ([] ++ pinsAt fp s7.heap) σ8 H' s' → P H' → ∃ m, m < n ∧ ∃ i H', Inv (X.blk s3 H3 sc ce fp) [] (L2.wipe σ (own.map (·.2))) H' s' ∧ tn i s'.heap ∧ (∀ b ∈ fp, H' b = none) ∧ W i m H' := fun {s' H'} J' p => by
        obtain ⟨m', hm, w'⟩ := hP H' p
        have held : ∀ b ∈ fp, ∀ o, s7.heap.get? b = some o → s'.heap.get? b = some o ∧ H' b = none := fun b hb o e => ⟨(J'.pin (b, o) (List.mem_append_right _ (List.mem_append_right _ (mem_pinsAt hb e)))).1, (J'.pin (b, o) (List.mem_append_right _ (List.mem_append_right _ (mem_pinsAt hb e)))).2.1⟩
        refine ⟨m', hm, i + 1, H', (J'.unpinned (pins := [])).weak (by rw [← w8, L2.wipe_length]) (fun j v e => by rw [← w8] at e; exact (wipe_some e).1), T.keep _ _ _ t7 fun b hb o e => (held b hb o e).1, fun b hb => ?_, w'⟩
        obtain ⟨o, e, _⟩ := T.obj _ _ t7 b hb
        exact (held b hb o e).2
      cases b with
      | false => rw [if_neg Bool.false_ne_true] at q9; exact onward J9 q9
      | true =>
        rw [if_pos rfl] at q9
        refine thnF (pk.run _ s9 σ8 H9 _ J9 q9) fun z s10 ⟨yk, H10, J10, r10, q10⟩ => ?_
        refine thnF (pv.run _ s10 σ8 H10 _ J10 q10) fun z2 s11 ⟨yv, H11, J11, r11, es, k, qa, ek, hk11, hN11, hl11, p⟩ => ?_
        subst ek
        obtain rfl : z = Value.ref qa := r10
        exact setT (X := X.blk s3 H3 sc ce fp) hu J11 hN11 hk11 hl11 r11 fun s12 J12 => onward J12 p
  exact codeAny_compStart_dict run (T.self X.A 0 _ _ _ t4 run)
theorem pe_dcT {X : Cx} {kx vx tg iter : Expr} {ifs : List Expr} {sc : Scope} {own : List (Str × Nat)} {pos : Pos} {wi : TI} {g : TG} {tt : TT} {tk tv : TE} (hc : X.calm = true) (hu : X.A.units + 1 < cLine) (hN : X.N.Nodup) (hi : PI X tg iter wi) (ok : BlkOk X.N X.env.scope sc own)
    (hg : ∀ s H C cl fp, PG (X.blk s H sc (compEnvC sc cl C X.env) fp) tg g) (ht : ∀ s H C cl fp, PTs (X.blk s H sc (compEnvC sc cl C X.env) fp) ifs tt) (hk : ∀ s H C cl fp, PE (X.blk s H sc (compEnvC sc cl C X.env) fp) kx tk)
    (hv : ∀ s H C cl fp, PE (X.blk s H sc (compEnvC sc cl C X.env) fp) vx tv) (hs : ∀ x, foldedSetIterable iter X.env x = pure x := by intro _; rfl) : PE X (.DictComp kx vx [⟨tg, iter, ifs, 0⟩] sc pos) (tDcT wi g tt tk tv (own.map (·.2))) :=
  ⟨fun ps s σ H Q J rd => by
    rw [arm_eval_DictComp]
    exact dcT_core hc hu hN J hi ok hg ht hk hv hs rd fun N C s' m H' J' q hn f => ⟨m, hn, fun h'' sb => ⟨.ref N, H', J'.turned (t' := s'.toks) (fun b o hb e => (sb.2 b hb).trans e) f.1 f.2.1 f.2.2.2.1 f.2.2.2.2.1 f.2.2.2.2.2, rfl, q⟩⟩⟩
end
section
variable {κ α : Type} [DecidableEq κ]
def putP (es : List (κ × α)) (k : κ) (v : α) : List (κ × α) := if (es.any fun p => decide (p.1 = k)) = true then es.map (fun p => if p.1 = k then (p.1, v) else p) else es ++ [(k, v)]
def getP (es : List (κ × α)) (k : κ) : Option α := (es.find? fun p => decide (p.1 = k)).map (·.2)
theorem putP_len (es : List (κ × α)) (k : κ) (v : α) : (putP es k v).length ≤ es.length + 1 := by
  unfold putP
  split
  · rw [List.length_map]; omega
  · rw [List.length_append]; simp
theorem any_fst {β : Type} (k : κ) : ∀ {es : List (κ × α)} {fs : List (κ × β)}, es.map (·.1) = fs.map (·.1) → (es.any fun p => decide (p.1 = k)) = fs.any fun p => decide (p.1 = k)
  | [], [], _ => rfl
  | [], _ :: _, h => by cases h
  | _ :: _, [], h => by cases h
  | p :: es, q :: fs, h => by
    rw [List.map_cons, List.map_cons] at h
    injection h with h1 h2
    rw [List.any_cons, List.any_cons, h1, any_fst k h2]
end
def keyD1 : D → Option Key
  | .int i => some (.inl i)
  | .str z => some (.inr z)
  | _ => none
def keysL : List D → Option (List Key)
  | [] => some []
  | x :: xs => match keyD1 x, keysL xs with
    | some k, some ks => some (k :: ks)
    | _, _ => none
structure RelP (K : PySem.W.Frag) (F : Hp) (A : List Addr) (ds : List (List Key × D)) (es : List (List Key × V)) : Prop where
  ks : es.map (·.1) = ds.map (·.1)
  vs : DatL K F A (ds.map (·.2)) (es.map (·.2))
section
variable {K : PySem.W.Frag} {F F' : Hp} {A A' : List Addr}
theorem key_rd {x : D} {v : V} {k : Key} (h : Dat K F A x v) (e : keyD1 x = some k) : v = kV k := by
  cases h <;> cases e <;> rfl
theorem keysL_rd : ∀ {xs : List D} {vs : List V} {ks : List Key}, DatL K F A xs vs → keysL xs = some ks → vs = ks.map kV
  | [], _, _, h, e => by cases h; cases e; rfl
  | x :: xs, _, _, h, e => by
    cases h with
    | cons h1 h2 =>
      unfold keysL at e
      split at e
      · rename_i k ks e1 e2
        cases e
        rw [key_rd h1 e1, keysL_rd h2 e2]
        rfl
      · cases e
def keysD : List D → Option (List Key)
  | [] => none
  | x :: xs => keysL (x :: xs)
theorem keys_rd : ∀ {xs : List D} {vs : List V} {ks : List Key}, DatL K F A xs vs → keysD xs = some ks → vs = ks.map kV
  | _ :: _, _, _, h, e => keysL_rd h e
theorem tp_hd {d : D} {ds : List D} {a : Addr} {vs : List V} (t : TpF K F a vs) (h : DatL K F A (d :: ds) vs) (e : (keyD1 d).isSome = true) : F a = some (.tup vs) := by
  cases h with
  | @cons _ _ v r h1 h2 =>
    rcases t.t with t | t | ⟨b, r, t⟩
    · exact t
    · cases t
    · exfalso
      have t1 := (List.cons.inj t).1
      subst t1
      cases d <;> first | (cases h1; done) | (cases e; done)
theorem tp_key {xs : List D} {a : Addr} {ks : List Key} (t : TpF K F a (ks.map kV)) (h : DatL K F A xs (ks.map kV)) (e : keysD xs = some ks) : F a = some (.tup (ks.map kV)) := by
  rcases t.t with t | t | ⟨b, r, t⟩
  · exact t
  · exfalso
    rw [t] at h
    cases h
    cases e
  · exfalso
    cases ks with
    | nil => cases t
    | cons k ks =>
      have t1 := (List.cons.inj t).1
      cases k <;> cases t1
theorem RelP.mono {ds : List (List Key × D)} {es : List (List Key × V)} (h : RelP K F A ds es) (e : Same F F') (p : ∀ (l : Nat) (a : Addr), A[l]? = some a → A'[l]? = some a) : RelP K F' A' ds es := ⟨h.ks, h.vs.mono e p⟩
theorem RelP.len {ds : List (List Key × D)} {es : List (List Key × V)} (h : RelP K F A ds es) : es.length = ds.length := by
  have := congrArg List.length h.ks
  simpa using this
theorem put_map {x : D} {v : V} (hx : Dat K F A x v) (k : List Key) : ∀ {ds : List (List Key × D)} {es : List (List Key × V)}, es.map (·.1) = ds.map (·.1) → DatL K F A (ds.map (·.2)) (es.map (·.2)) →
    DatL K F A ((ds.map fun p => if p.1 = k then (p.1, x) else p).map (·.2)) ((es.map fun p => if p.1 = k then (p.1, v) else p).map (·.2)) ∧ (es.map fun p => if p.1 = k then (p.1, v) else p).map (·.1) = (ds.map fun p => if p.1 = k then (p.1, x) else p).map (·.1)
  | [], [], _, _ => ⟨.nil, rfl⟩
  | [], _ :: _, h, _ => by cases h
  | _ :: _, [], h, _ => by cases h
  | p :: ds, q :: es, h, d => by
    rw [List.map_cons, List.map_cons] at h
    injection h with h1 h2
    cases d with
    | cons d1 d2 =>
      obtain ⟨g1, g2⟩ := put_map hx k h2 d2
      by_cases e : p.1 = k
      · have e' : q.1 = k := h1.trans e
        simp only [List.map_cons, if_pos e, if_pos e'] at g1 g2 ⊢
        exact ⟨.cons hx g1, by rw [g2, e, e']⟩
      · have e' : ¬ q.1 = k := fun z => e (h1.symm.trans z)
        simp only [List.map_cons, if_neg e, if_neg e'] at g1 g2 ⊢
        exact ⟨.cons d1 g1, by rw [g2, h1]⟩
theorem RelP.put {ds : List (List Key × D)} {es : List (List Key × V)} {x : D} {v : V} (h : RelP K F A ds es) (k : List Key) (hx : Dat K F A x v) : RelP K F A (putP ds k x) (putK es k v) := by
  have e := any_fst k h.ks
  unfold putP putK
  rw [e]
  split
  · obtain ⟨g1, g2⟩ := put_map hx k h.ks h.vs
    exact ⟨g2, g1⟩
  · refine ⟨by rw [List.map_append, List.map_append, h.ks]; rfl, ?_⟩
    rw [List.map_append, List.map_append]
    exact h.vs.append (.cons hx .nil)
end
def dcD (g : Sto → Prop) (tg : GD) (tt : TD) (tk tv : ED) (env : En) : List D → List (List Key × D) → Sto → (List (List Key × D) → Sto → Prop) → Prop
  | [], acc, s, Q => g s ∧ Q acc s
  | d :: ds, acc, s, Q => g s ∧ tg d env s fun env1 s1 => tt env1 s1 fun b s2 => if b = true then tk env1 s2 fun y s3 => tv env1 s3 fun z s4 => ∃ xs k, y = .tup xs ∧ keysD xs = some k ∧ dcD g tg tt tk tv env ds (putP acc k z) s4 Q else dcD g tg tt tk tv env ds acc s2 Q
theorem mono_dcD {g : Sto → Prop} {tg : GD} {tt : TD} {tk tv : ED} (mg : MonoG tg) (mt : Mono tt) (mk : Mono tk) (mv : Mono tv) {env : En} : ∀ (ds : List D) (acc : List (List Key × D)) (s : Sto) (P P' : List (List Key × D) → Sto → Prop), (∀ d s', P d s' → P' d s') → dcD g tg tt tk tv env ds acc s P → dcD g tg tt tk tv env ds acc s P'
  | [], _, _, _, _, f, ⟨h1, h2⟩ => ⟨h1, f _ _ h2⟩
  | d :: ds, acc, _, P, P', f, ⟨h1, h2⟩ => ⟨h1, mg _ _ _ _ _ (fun env1 s1 h3 => mt _ _ _ _ (fun b s2 h4 => by
    cases b with
    | true =>
      rw [if_pos rfl] at h4 ⊢
      exact mk _ _ _ _ (fun y s3 h5 => mv _ _ _ _ (fun z s4 ⟨xs, k, e1, e2, h6⟩ => ⟨xs, k, e1, e2, mono_dcD mg mt mk mv ds _ s4 P P' f h6⟩) h5) h4
    | false => rw [if_neg Bool.false_ne_true] at h4 ⊢; exact mono_dcD mg mt mk mv ds _ s2 P P' f h4) h3) h2⟩
def dDc (it : ID) (tg : GD) (tt : TD) (tk tv : ED) (vs : List Nat) : ED := fun env s Q => it env s fun ds g s1 => ds.length ≤ sizeLine ∧ dcD g tg tt tk tv (wipeE env vs) ds [] s1 fun acc s2 => Q (.dt (acc.map (·.1)) (acc.map (·.2))) s2
theorem mono_dc {it : ID} {tg : GD} {tt : TD} {tk tv : ED} {vs : List Nat} (mi : MonoI it) (mg : MonoG tg) (mt : Mono tt) (mk : Mono tk) (mv : Mono tv) : Mono (dDc it tg tt tk tv vs) := fun _ _ _ _ f h => mi _ _ _ _ (fun ds g s1 ⟨hl, q⟩ => ⟨hl, mono_dcD mg mt mk mv _ _ _ _ _ (fun _ _ h => f _ _ h) q⟩) h
structure DcEnd (K : PySem.W.Frag) (B : List Addr) (D0 : Addr) (H1 : Hp) (A1 : List Addr) (s1 : Sto) (H : Hp) (A : List Addr) (s : Sto) (ds : List (List Key × D)) : Prop where
  rs : RepS K (D0 :: B) H A s
  same : Same (Fz B H1 A1 s1) (Fz (D0 :: B) H A s)
  pre : ∀ (l : Nat) (a : Addr), A1[l]? = some a → A[l]? = some a
  hid : ∀ b ∈ B, H b = H1 b
  nb : D0 ∉ B
  it : ∃ es, H D0 = some (.dT es) ∧ RelP K (Fz (D0 :: B) H A s) A ds es
theorem dc_rd {it : ID} {c : CT} {tt : TD} {tk tv : ED} {own : List Nat} (mi : MonoI it) (mt : Mono tt) (mk : Mono tk) (mv : Mono tv) (hs : ∀ i ∈ c.slots, i ∈ own) {K : KK} (σ : L2.St) (H : Hp) (Q : VK) (h : rdE K (dDc it c.g tt tk tv own) σ H Q) :
    tDcT (rdI K it) (c.t K) (rdT (kk0 K.K) tt) (rdE (kk0 K.K) tk) (rdE (kk0 K.K) tv) own σ H Q := by
  obtain ⟨env, s, A, B, w, h⟩ := h
  refine ⟨env, s, A, B, w, mi _ _ _ _ (fun ds gd s1 q J H1 A1 r1 e1 ok => ?_) h⟩
  obtain ⟨hlen, q⟩ := q
  intro D0 hD0
  have w1 := w.to r1 e1
  obtain ⟨r1', s1'⟩ := r1.hide (D0 := D0) (o := .dT []) hD0
  have nb : D0 ∉ B := fun z => r1.hb D0 z hD0
  let P2 : Nat → Hp → Prop := fun i H' => ∃ (s' : Sto) (A' : List Addr) (acc : List (List Key × D)), DcEnd K B D0 H1 A1 s1 H' A' s' acc ∧ RepE K (Fz (D0 :: B) H' A' s') A' (wipeE env own) (L2.wipe σ own) ∧ acc.length ≤ i ∧
    dcD gd c.g tt tk tv (wipeE env own) (ds.drop i) acc s' fun acc s2 => PostE K B H A s Q (.dt (acc.map (·.1)) (acc.map (·.2))) s2
  refine ⟨fun i m H' => m = ds.length - i ∧ i ≤ ds.length ∧ P2 i H', ⟨ds.length, by simp, Nat.zero_le _, s1, A1, [], ⟨r1', s1', fun _ _ h => h, fun b hb => upd_ne (fun z => nb (by rw [← z]; exact hb)), nb, [], upd_same, rfl, .nil⟩, ?_, Nat.zero_le _, by simpa using q⟩, ?_⟩
  · have := (w1.re.wipe own)
    exact ⟨this.len, fun i d hd => let ⟨v, h1, h2⟩ := this.get i d hd; ⟨v, h1, h2.mono s1' fun _ _ h => h⟩⟩
  rintro i m H2 ⟨rfl, hi, s2, A2, acc, le, re2, hacc, q2⟩
  have okw := ok (D0 :: B) H2 A2 s2 le.rs le.same le.pre
  by_cases hlt : i < ds.length
  · have hd : ds[i]? = some ds[i] := List.getElem?_eq_getElem hlt
    rw [drop_cons hd] at q2
    obtain ⟨hgd, q3⟩ := q2
    obtain ⟨go, yl⟩ := (okw hgd i).1 _ hd
    refine .inr ⟨go, P2 (i + 1), fun H' n => ⟨ds.length - (i + 1), by omega, rfl, hlt, n⟩, fun x H3 y => ?_⟩
    obtain ⟨r3, e3, d3⟩ := yl x H3 y
    have w3 : Wo (kk0 K.K) (D0 :: B) H3 A2 s2 (wipeE env own) (L2.wipe σ own) := (Wo.mk (K := kk0 K.K) le.rs re2 trivial).to r3 e3
    have step : ∀ {H' : Hp} {A' : List Addr} {s' : Sto}, RepS K (D0 :: B) H' A' s' → Ext (D0 :: B) H2 A2 s2 H' A' s' → DcEnd K B D0 H1 A1 s1 H' A' s' acc ∧ RepE K (Fz (D0 :: B) H' A' s') A' (wipeE env own) (L2.wipe σ own) := fun {H' A' s'} r' e' => by
      obtain ⟨es, hv, dv⟩ := le.it
      exact ⟨⟨r', le.same.trans e'.same, fun l a h => e'.pre l a (le.pre l a h), fun b hb => (e'.hid b (List.mem_cons_of_mem _ hb)).trans (le.hid b hb), nb, es, (e'.hid D0 List.mem_cons_self).trans hv, dv.mono e'.same e'.pre⟩, re2.ext e'⟩
    refine c.rd (K := kk0 K.K) hs w3 d3 q3 fun env4 σ4 q4 w4 => ?_
    refine rdT_go mt w4 q4 fun b s5 H5 A5 q5 w5 e5 => ?_
    cases b with
    | false =>
      rw [if_neg Bool.false_ne_true] at q5 ⊢
      obtain ⟨le5, re5⟩ := step w5.rs (e3.trans e5)
      exact ⟨s5, A5, acc, le5, re5, Nat.le_succ_of_le hacc, q5⟩
    | true =>
      rw [if_pos rfl] at q5 ⊢
      refine rdE_go mk w5 q5 fun y s6 v6 H6 A6 q6 w6 e6 d6 => ?_
      refine rdE_go mv w6 q6 fun z s7 v7 H7 A7 q7 w7 e7 d7 => ?_
      obtain ⟨xs, k, rfl, hk, q7⟩ := q7
      obtain ⟨le7, re7⟩ := step w7.rs (((e3.trans e5).trans e6).trans e7)
      obtain ⟨es, hv, dv⟩ := le7.it
      cases d6.ext e7 with
      | tup ht hts =>
        have hkv := keys_rd hts hk
        subst hkv
        refine ⟨es, k, _, rfl, (fz_of (tp_key ht hts hk)).1, hv, by rw [dv.len]; omega, ?_⟩
        obtain ⟨r8, s8⟩ := le7.rs.hidW (o := .dT (putK es k v7))
        refine ⟨s7, A7, putP acc k z, ⟨r8, le7.same.trans s8, le7.pre, fun b hb => (upd_ne (fun z => nb (by rw [← z]; exact hb))).trans (le7.hid b hb), nb, _, upd_same, ?_⟩, ?_, Nat.le_trans (putP_len _ _ _) (Nat.succ_le_succ hacc), q7⟩
        · exact (dv.put k d7).mono s8 fun _ _ h => h
        · exact ⟨re7.len, fun i d hd => let ⟨v, h1, h2⟩ := re7.get i d hd; ⟨v, h1, h2.mono s8 fun _ _ h => h⟩⟩
  · have : i = ds.length := by omega
    subst this
    rw [List.drop_length] at q2
    obtain ⟨hgd, p⟩ := q2
    refine .inl ⟨(okw hgd _).2 (Nat.le_refl _), ?_⟩
    obtain ⟨es, hv, dv⟩ := le.it
    refine p _ _ _ le.rs.show (e1.trans ⟨le.same.trans fz_hide, le.pre, le.hid⟩) ?_
    rw [← dv.ks]
    exact .dt (fz_to hv (fun ⟨l, mo, h1, h2, _⟩ => le.rs.ab D0 List.mem_cons_self (List.mem_of_getElem? h2)) le.nb) (dv.vs.mono fz_hide fun _ _ h => h)
structure DcP (X : DX) (kx vx tg : Expr) (ifs : List Expr) (scope : Scope) (c : CT) (tt : TD) (tk tv : ED) : Prop where
  hg : ∀ (s : Shared) (H : Hp) (C : Addr) (cl : List (Str × Addr)) (fp : List Addr), PG (X.blk s H scope (compEnvC scope cl C X.env) fp) tg (c.t X.K)
  ht : ∀ (s : Shared) (H : Hp) (C : Addr) (cl : List (Str × Addr)) (fp : List Addr), PTsD (dx0 (X.blk s H scope (compEnvC scope cl C X.env) fp)) ifs tt
  hk : ∀ (s : Shared) (H : Hp) (C : Addr) (cl : List (Str × Addr)) (fp : List Addr), PD (dx0 (X.blk s H scope (compEnvC scope cl C X.env) fp)) kx tk
  hv : ∀ (s : Shared) (H : Hp) (C : Addr) (cl : List (Str × Addr)) (fp : List Addr), PD (dx0 (X.blk s H scope (compEnvC scope cl C X.env) fp)) vx tv
theorem pd_dc {X : DX} {pos : Pos} {kx vx tg iter : Expr} {ifs : List Expr} {scope : Scope} {own : List (Str × Nat)} {it : ID} {tt : TD} {tk tv : ED} (c : CT) (hc : X.calm = true) (hu : X.A.units + 64 < cLine) (hN : X.N.Nodup) (hi : PID X tg iter it) (ok : BlkOk X.N X.env.scope scope own) (p : DcP X kx vx tg ifs scope c tt tk tv) (sl : ∀ i ∈ c.slots, i ∈ own.map (·.2))
    (hs : ∀ x, foldedSetIterable iter X.env x = pure x := by intro _; rfl) : PD X (.DictComp kx vx [⟨tg, iter, ifs, 0⟩] scope pos) (dDc it c.g tt tk tv (own.map (·.2))) :=
  have mt : Mono tt := (p.ht X.s_0 (fun _ => none) 0 [] []).mono
  have mk : Mono tk := (p.hk X.s_0 (fun _ => none) 0 [] []).mono
  have mv : Mono tv := (p.hv X.s_0 (fun _ => none) 0 [] []).mono
  ⟨pe_imp (pe_dcT hc (by omega) hN hi.pi ok p.hg (fun s H C cl fp => (p.ht s H C cl fp).pts) (fun s H C cl fp => (p.hk s H C cl fp).pe) (fun s H C cl fp => (p.hv s H C cl fp).pe) hs) (dc_rd hi.mono mt mk mv sl), mono_dc hi.mono c.mono mt mk mv⟩
theorem dcD_run {g : Sto → Prop} {tg : GD} {tt : TD} {tk tv : ED} {env : En} (I : List D → List (List Key × D) → Sto → Prop)
    (step : ∀ d rest acc s, I (d :: rest) acc s → ∀ (k1 : List (List Key × D) → Sto → Prop), (∀ acc' s', I rest acc' s' → k1 acc' s') →
      g s ∧ tg d env s fun env1 s1 => tt env1 s1 fun b s2 => if b = true then tk env1 s2 fun y s3 => tv env1 s3 fun z s4 => ∃ xs k, y = .tup xs ∧ keysD xs = some k ∧ k1 (putP acc k z) s4 else k1 acc s2) : ∀ {ds : List D} {acc : List (List Key × D)} {s : Sto} {Q : List (List Key × D) → Sto → Prop}, I ds acc s → (∀ ys s', I [] ys s' → g s' ∧ Q ys s') → dcD g tg tt tk tv env ds acc s Q
  | [], acc, s, Q, h, done => done acc s h
  | d :: ds, acc, s, Q, h, done => step d ds acc s h (fun acc' s' => dcD g tg tt tk tv env ds acc' s' Q) fun acc' s' h' => dcD_run I step h' done
end Dl
namespace Dl
open PySem PySem.Spec PyProof.Rows L2
mutual
def pyD : D → PyData
  | .bl b => .bool b
  | .int i => .int i
  | .str z => .str z
  | .tup xs => .tuple (pyL xs)
  | .lst xs => .list (pyL xs)
  | .frl xs => .list (pyL xs)
  | .non => .none
  | .dk _ _ => .none
  | .dt _ _ => .none
  | .ref _ => .none
  | .exc _ _ _ => .none
def pyL : List D → List PyData
  | [] => []
  | x :: xs => pyD x :: pyL xs
end
mutual
def seqs : D → Bool
  | .tup xs => seqsL xs
  | .lst xs => seqsL xs
  | .frl xs => seqsL xs
  | .dk _ _ => false
  | .dt _ _ => false
  | .ref _ => false
  | .exc _ _ _ => false
  | _ => true
def seqsL : List D → Bool
  | [] => true
  | x :: xs => seqs x && seqsL xs
end
theorem repr_go {P : Program} {w : World} {A : Around} {E : Value → Shared → Prop} {s : Shared} {Q : Value → Shared → Prop} {u : Value} {d : PyData} {as : List Addr} (r : Reads s.heap u d as) (hs : d.showable = true) (hn : d.hasDict = false) (hz : d.shown.length ≤ sizeLine) (hg : A.guards = some []) (hu : A.units + (d.depth + 1) < cLine)
    (hQ : ∀ h' t tk, (∀ b o, s.heap.get? b = some o → h'.get? b = some o) → Q (.str d.shown t) { s with heap := h', toks := tk }) : wpAny (model P w) A (call (.builtin "repr") [u]) Q E s := by
  cases r with
  | none => exact PySem.P.repr_of_none (by simpa only [PyData.shown] using hQ s.heap _ _ fun _ _ e => e)
  | bool b => exact PySem.P.repr_of_bool (by simpa only [PyData.shown] using hQ s.heap _ _ fun _ _ e => e)
  | int i t => exact PySem.P.repr_of_int (by simpa [PyData.showable] using hs) (by simpa only [PyData.shown] using hQ s.heap _ _ fun _ _ e => e)
  | str z t => exact PySem.P.repr_of_str (by simpa only [PyData.shown] using hQ s.heap _ _ fun _ _ e => e) (by simpa only [PyData.shown] using hz)
  | list h1 h2 h3 h4 => exact repr_of_reads' (.list h1 h2 h3 h4) hs (PyData.noDict_hsm hn) hg hu (fun _ _ e => e) (fun h' t tk hk => hQ h' t tk hk) hz
  | tuple h1 h2 h3 h4 => exact repr_of_reads' (.tuple h1 h2 h3 h4) hs (PyData.noDict_hsm hn) hg hu (fun _ _ e => e) (fun h' t tk hk => hQ h' t tk hk) hz
  | dict h1 h2 h3 h4 h5 => simp only [PyData.hasDict] at hn; cases hn
mutual
def tame : D → Bool
  | .int i => decide (i.natAbs < 10 ^ 40)
  | .str z => z.cps.toList.all fun c => decide (c < 16 ^ 8)
  | .tup xs => tameL xs
  | .lst xs => tameL xs
  | .frl xs => tameL xs
  | .non => true
  | .bl _ => true
  | _ => false
def tameL : List D → Bool
  | [] => true
  | x :: xs => tame x && tameL xs
end
mutual
def deep : D → Nat
  | .tup xs => deepL xs + 1
  | .lst xs => deepL xs + 1
  | .frl xs => deepL xs + 1
  | _ => 0
def deepL : List D → Nat
  | [] => 0
  | x :: xs => max (deep x) (deepL xs)
end
theorem int_short {i : Int} (h : i.natAbs < 10 ^ 40) : (PyData.shown (.int i)).length ≤ 41 := by
  simp only [PyData.shown]
  have e : (Str.ofString (toString i)).length = (toString i).length := PySem.ofString_length _
  rw [e]
  exact int_text_length_le10 (by decide) h
mutual
theorem tame_of : ∀ x : D, tame x = true → (pyD x).leavesShort 41 = true ∧ (pyD x).showable = true ∧ seqs x = true
  | .tup xs, h => by simp only [pyD, PyData.leavesShort, PyData.showable, seqs]; exact tameL_of xs h
  | .lst xs, h => by simp only [pyD, PyData.leavesShort, PyData.showable, seqs]; exact tameL_of xs h
  | .frl xs, h => by simp only [pyD, PyData.leavesShort, PyData.showable, seqs]; exact tameL_of xs h
  | .str z, h => by simp only [pyD, PyData.leavesShort, PyData.showable, seqs]; exact ⟨h, by trivial⟩
  | .bl _, _ => by simp only [pyD, PyData.leavesShort, PyData.showable, seqs, and_self]
  | .int i, h => by
    have h' : i.natAbs < 10 ^ 40 := of_decide_eq_true h
    refine ⟨?_, ?_, rfl⟩
    · simp only [pyD, PyData.leavesShort]
      exact decide_eq_true (int_short h')
    · simp only [pyD, PyData.showable]
      refine decide_eq_true ?_
      by_cases z : i.natAbs = 0
      · rw [z]; decide
      · have := (Nat.log2_lt (k := 140) z).mpr (Nat.lt_of_lt_of_le h' (by decide)); omega
  | .non, _ => by simp only [pyD, PyData.leavesShort, PyData.showable, seqs, and_self]
  | .dk _ _, h => by cases h
  | .dt _ _, h => by cases h
  | .ref _, h => by cases h
  | .exc _ _ _, h => by cases h
theorem tameL_of : ∀ xs : List D, tameL xs = true → PyData.leavesShortAll 41 (pyL xs) = true ∧ PyData.showableAll (pyL xs) = true ∧ seqsL xs = true
  | [], _ => by simp only [pyL, PyData.leavesShortAll, PyData.showableAll, seqsL, and_self]
  | x :: xs, h => by
    have h' : (tame x && tameL xs) = true := h
    obtain ⟨p1, p2⟩ := Bool.and_eq_true_iff.mp h'
    obtain ⟨a1, a2, a3⟩ := tame_of x p1
    obtain ⟨b1, b2, b3⟩ := tameL_of xs p2
    simp only [pyL, PyData.leavesShortAll, PyData.showableAll, seqsL, a1, a2, a3, b1, b2, b3, Bool.and_self, and_self]
end
end Dl
namespace Dl
open PySem PySem.Spec PyProof.Rows L2
section
variable {κ : Type} [DecidableEq κ] {K : PySem.W.Frag} {F F' : Hp} {A A' : List Addr}
structure RelG (K : PySem.W.Frag) (F : Hp) (A : List Addr) (ds : List (κ × D)) (es : List (κ × V)) : Prop where
  ks : es.map (·.1) = ds.map (·.1)
  vs : DatL K F A (ds.map (·.2)) (es.map (·.2))
theorem RelG.len {ds : List (κ × D)} {es : List (κ × V)} (h : RelG K F A ds es) : es.length = ds.length := by
  have := congrArg List.length h.ks
  simpa using this
theorem getP_cons {α : Type} {p : κ × α} {es : List (κ × α)} {k : κ} : getP (p :: es) k = if p.1 = k then some p.2 else getP es k := by
  unfold getP
  by_cases h : p.1 = k
  · rw [List.find?_cons_of_pos (by simpa using h), if_pos h]; rfl
  · rw [List.find?_cons_of_neg (by simpa using h), if_neg h]
theorem RelG.get (k : κ) : ∀ {ds : List (κ × D)} {es : List (κ × V)}, RelG K F A ds es → (getP ds k = none → valV es k = none) ∧ ∀ d, getP ds k = some d → ∃ v, valV es k = some v ∧ Dat K F A d v
  | [], [], _ => ⟨fun _ => rfl, fun d h => by cases h⟩
  | [], _ :: _, h => by cases h.ks
  | _ :: _, [], h => by cases h.ks
  | p :: ds, q :: es, h => by
    have h1 := h.ks
    rw [List.map_cons, List.map_cons] at h1
    injection h1 with e1 e2
    have h2 := h.vs
    rw [List.map_cons, List.map_cons] at h2
    cases h2 with
    | cons d1 d2 =>
      obtain ⟨g1, g2⟩ := RelG.get k (ds := ds) (es := es) ⟨e2, d2⟩
      rw [getP_cons]
      by_cases e : p.1 = k
      · rw [if_pos e, valV_pos (e1.trans e)]
        refine ⟨fun z => (nomatch z), fun d z => ?_⟩
        cases z
        exact ⟨_, rfl, d1⟩
      · rw [if_neg e, valV_neg (fun z => e (e1.symm.trans z))]
        exact ⟨g1, g2⟩
theorem put_mapG {x : D} {v : V} (hx : Dat K F A x v) (k : κ) : ∀ {ds : List (κ × D)} {es : List (κ × V)}, es.map (·.1) = ds.map (·.1) → DatL K F A (ds.map (·.2)) (es.map (·.2)) →
    DatL K F A ((ds.map fun p => if p.1 = k then (p.1, x) else p).map (·.2)) ((es.map fun p => if p.1 = k then (p.1, v) else p).map (·.2)) ∧ (es.map fun p => if p.1 = k then (p.1, v) else p).map (·.1) = (ds.map fun p => if p.1 = k then (p.1, x) else p).map (·.1)
  | [], [], _, _ => ⟨.nil, rfl⟩
  | [], _ :: _, h, _ => by cases h
  | _ :: _, [], h, _ => by cases h
  | p :: ds, q :: es, h, d => by
    rw [List.map_cons, List.map_cons] at h
    injection h with h1 h2
    cases d with
    | cons d1 d2 =>
      obtain ⟨g1, g2⟩ := put_mapG hx k h2 d2
      by_cases e : p.1 = k
      · have e' : q.1 = k := h1.trans e
        simp only [List.map_cons, if_pos e, if_pos e'] at g1 g2 ⊢
        exact ⟨.cons hx g1, by rw [g2, e, e']⟩
      · have e' : ¬ q.1 = k := fun z => e (h1.symm.trans z)
        simp only [List.map_cons, if_neg e, if_neg e'] at g1 g2 ⊢
        exact ⟨.cons d1 g1, by rw [g2, h1]⟩
theorem RelG.put {ds : List (κ × D)} {es : List (κ × V)} {x : D} {v : V} (h : RelG K F A ds es) (k : κ) (hx : Dat K F A x v) : RelG K F A (putP ds k x) (putK es k v) := by
  have e := any_fst k h.ks
  unfold putP putK
  rw [e]
  split
  · obtain ⟨g1, g2⟩ := put_mapG hx k h.ks h.vs
    exact ⟨g2, g1⟩
  · refine ⟨by rw [List.map_append, List.map_append, h.ks]; rfl, ?_⟩
    rw [List.map_append, List.map_append]
    exact h.vs.append (.cons hx .nil)
theorem zip_fs {α : Type} : ∀ (es : List (κ × α)), (es.map (·.1)).zip (es.map (·.2)) = es
  | [] => rfl
  | p :: es => by rw [List.map_cons, List.map_cons, List.zip_cons_cons, zip_fs es]
theorem relG_zip {ks : List κ} {xs : List D} {kvs : List (κ × V)} (h1 : kvs.map (·.1) = ks) (h2 : DatL K F A xs (kvs.map (·.2))) : RelG K F A (ks.zip xs) kvs := by
  have hl : ks.length = xs.length := by rw [← h2.length, ← h1, List.length_map, List.length_map]
  refine ⟨?_, ?_⟩
  · rw [h1, List.map_fst_zip (Nat.le_of_eq hl)]
  · rw [List.map_snd_zip (Nat.le_of_eq hl.symm)]; exact h2
end
inductive DV where
  | k (es : List (Key × D)) | t (es : List (List Key × D))
def DV.len : DV → Nat
  | .k es => es.length
  | .t es => es.length
def DV.vals : DV → List D
  | .k es => es.map (·.2)
  | .t es => es.map (·.2)
def DV.mo : DV → MO
  | .k es => .dk (es.map (·.1)) (es.map (·.2))
  | .t es => .dt (es.map (·.1)) (es.map (·.2))
def DV.d : DV → D
  | .k es => .dk (es.map (·.1)) (es.map (·.2))
  | .t es => .dt (es.map (·.1)) (es.map (·.2))
def DV.get : DV → D → Option (Option D)
  | .k es, y => (keyD1 y).map (getP es)
  | .t es, .tup ys => (keysD ys).map (getP es)
  | .t _, _ => none
def DV.put : DV → D → D → Option DV
  | .k es, y, v => (keyD1 y).map fun k => .k (putP es k v)
  | .t es, .tup ys, v => (keysD ys).map fun k => .t (putP es k v)
  | .t _, _, _ => none
def dictM (s : Sto) : D → Option DV
  | .ref l => match s[l]? with
    | some (some (.dk ks xs)) => some (.k (ks.zip xs))
    | some (some (.dt ks xs)) => some (.t (ks.zip xs))
    | _ => none
  | _ => none
def dictD (s : Sto) : D → Option DV
  | .dk ks xs => some (.k (ks.zip xs))
  | .dt ks xs => some (.t (ks.zip xs))
  | .ref l => match s[l]? with
    | some (some (.fdk ks xs)) => some (.k (ks.zip xs))
    | some (some (.fdt ks xs)) => some (.t (ks.zip xs))
    | some (some (.dk ks xs)) => some (.k (ks.zip xs))
    | some (some (.dt ks xs)) => some (.t (ks.zip xs))
    | _ => none
  | _ => none
theorem dictM_mo {s : Sto} {l : Nat} {dv : DV} (h : s[l]? = some (some dv.mo)) : dictM s (.ref l) = some dv := by
  unfold dictM
  cases dv with
  | k es => simp only [h, DV.mo, zip_fs]
  | t es => simp only [h, DV.mo, zip_fs]
theorem dictD_mo {s : Sto} {l : Nat} {dv : DV} (h : s[l]? = some (some dv.mo)) : dictD s (.ref l) = some dv := by
  unfold dictD
  cases dv with
  | k es => simp only [h, DV.mo, zip_fs]
  | t es => simp only [h, DV.mo, zip_fs]
theorem dictD_d {s : Sto} {dv : DV} : dictD s dv.d = some dv := by
  cases dv <;> simp [dictD, DV.d, zip_fs]
def DvAtM (K : PySem.W.Frag) (F : Hp) (A : List Addr) (H : Hp) (a : Addr) : DV → Prop
  | .k es => ∃ kvs, H a = some (.dK kvs) ∧ RelG K F A es kvs
  | .t es => ∃ kvs, H a = some (.dT kvs) ∧ RelG K F A es kvs
def DvAt (K : PySem.W.Frag) (F : Hp) (A : List Addr) (H : Hp) (a : Addr) : DV → Prop
  | .k es => ∃ kvs, Rd H a (.dK kvs) ∧ RelG K F A es kvs
  | .t es => ∃ kvs, Rd H a (.dT kvs) ∧ RelG K F A es kvs
section
variable {K : PySem.W.Frag} {B : List Addr} {H : Hp} {A : List Addr} {s : Sto}
theorem dictM_rd (R : RepS K B H A s) {x : D} {v : V} {dv : DV} (d : Dat K (Fz B H A s) A x v) (h : dictM s x = some dv) :
    ∃ l a mo, x = .ref l ∧ v = .ref a ∧ s[l]? = some (some mo) ∧ A[l]? = some a ∧ DvAtM K (Fz B H A s) A H a dv ∧ mo.live = true := by
  unfold dictM at h
  split at h
  · rename_i l
    cases d with
    | ref hA =>
      split at h
      · rename_i ks xs hs
        cases h
        obtain ⟨a, ha, kvs, h1, h2, h3⟩ := R.ob l _ hs
        rw [hA] at ha; cases ha
        exact ⟨l, _, _, rfl, rfl, hs, hA, ⟨kvs, h1, relG_zip h2 h3⟩, rfl⟩
      · rename_i ks xs hs
        cases h
        obtain ⟨a, ha, kvs, h1, h2, h3⟩ := R.ob l _ hs
        rw [hA] at ha; cases ha
        exact ⟨l, _, _, rfl, rfl, hs, hA, ⟨kvs, h1, relG_zip h2 h3⟩, rfl⟩
      · cases h
  · cases h
theorem dictD_rd (R : RepS K B H A s) {x : D} {v : V} {dv : DV} (d : Dat K (Fz B H A s) A x v) (h : dictD s x = some dv) : ∃ a, v = .ref a ∧ DvAt K (Fz B H A s) A H a dv := by
  unfold dictD at h
  split at h
  · cases h
    cases d with
    | dk h1 h2 => exact ⟨_, rfl, _, .of (fz_of h1).1, relG_zip rfl h2⟩
  · cases h
    cases d with
    | dt h1 h2 => exact ⟨_, rfl, _, .of (fz_of h1).1, relG_zip rfl h2⟩
  · rename_i l
    cases d with
    | ref hA =>
      split at h
      · rename_i ks xs hs
        cases h
        obtain ⟨a, ha, o, kvs, h1, h2, h3⟩ := R.ob l _ hs
        rw [hA] at ha; cases ha
        exact ⟨_, rfl, kvs, .inr ⟨o, h1⟩, relG_zip h2 h3⟩
      · rename_i ks xs hs
        cases h
        obtain ⟨a, ha, o, kvs, h1, h2, h3⟩ := R.ob l _ hs
        rw [hA] at ha; cases ha
        exact ⟨_, rfl, kvs, .inr ⟨o, h1⟩, relG_zip h2 h3⟩
      · rename_i ks xs hs
        cases h
        obtain ⟨a, ha, kvs, h1, h2, h3⟩ := R.ob l _ hs
        rw [hA] at ha; cases ha
        exact ⟨_, rfl, kvs, .of h1, relG_zip h2 h3⟩
      · rename_i ks xs hs
        cases h
        obtain ⟨a, ha, kvs, h1, h2, h3⟩ := R.ob l _ hs
        rw [hA] at ha; cases ha
        exact ⟨_, rfl, kvs, .of h1, relG_zip h2 h3⟩
      · cases h
  · cases h
theorem dget_rd (R : RepS K B H A s) {y : D} {u : V} {a : Addr} {dv : DV} {o : Option D} (q : DvAt K (Fz B H A s) A H a dv) (d : Dat K (Fz B H A s) A y u) (h : dv.get y = some o) :
    ∃ r, DGet H a u r ∧ (o = none → r = none) ∧ ∀ z, o = some z → ∃ w, r = some w ∧ Dat K (Fz B H A s) A z w := by
  cases dv with
  | k es =>
    obtain ⟨kvs, h1, h2⟩ := q
    have h : (keyD1 y).map (getP es) = some o := h
    cases hk : keyD1 y with
    | none => rw [hk] at h; cases h
    | some k =>
      rw [hk] at h
      cases h
      cases key_rd d hk
      exact ⟨_, .inl ⟨kvs, k, h1, rfl, rfl⟩, (h2.get k).1, (h2.get k).2⟩
  | t es =>
    obtain ⟨kvs, h1, h2⟩ := q
    by_cases hy : ∃ ys, y = .tup ys
    · obtain ⟨ys, rfl⟩ := hy
      have h : (keysD ys).map (getP es) = some o := h
      cases d with
      | tup t1 t2 =>
        cases hk : keysD ys with
        | none => rw [hk] at h; cases h
        | some k =>
          rw [hk] at h
          cases h
          have e2 := keys_rd t2 hk
          subst e2
          exact ⟨_, .inr ⟨kvs, k, _, h1, rfl, (fz_of (tp_key t1 t2 hk)).1, rfl⟩, (h2.get k).1, (h2.get k).2⟩
    · exfalso
      cases y <;> first | exact hy ⟨_, rfl⟩ | cases h
theorem dput_rd (R : RepS K B H A s) {l : Nat} {mo : MO} {y z : D} {u w : V} {a : Addr} {dv dv' : DV} (hl : s[l]? = some (some mo)) (hA : A[l]? = some a) (lv : mo.live = true) (q : DvAtM K (Fz B H A s) A H a dv) (d : Dat K (Fz B H A s) A y u) (dz : Dat K (Fz B H A s) A z w) (h : dv.put y z = some dv') (hn : dv.len < sizeLine) :
    ∃ H', DPut H a u w H' ∧ RepS K B H' A (s.set l (some dv'.mo)) ∧ Ext B H A s H' A (s.set l (some dv'.mo)) := by
  cases dv with
  | k es =>
    obtain ⟨kvs, h1, h2⟩ := q
    have h : (keyD1 y).map (fun k => DV.k (putP es k z)) = some dv' := h
    cases hk : keyD1 y with
    | none => rw [hk] at h; cases h
    | some k =>
      rw [hk] at h
      cases h
      cases key_rd d hk
      have rp := h2.put k dz
      obtain ⟨r, e⟩ := R.write (o := .dK (putK kvs k w)) (mo' := DV.mo (.k (putP es k z))) hl hA ⟨_, upd_same, rp.ks, rp.vs⟩ lv
      exact ⟨_, .k h1 (by rw [h2.len]; exact hn), r, e⟩
  | t es =>
    obtain ⟨kvs, h1, h2⟩ := q
    by_cases hy : ∃ ys, y = .tup ys
    · obtain ⟨ys, rfl⟩ := hy
      have h : (keysD ys).map (fun k => DV.t (putP es k z)) = some dv' := h
      cases d with
      | tup t1 t2 =>
        cases hk : keysD ys with
        | none => rw [hk] at h; cases h
        | some k =>
          rw [hk] at h
          cases h
          have e2 := keys_rd t2 hk
          subst e2
          have rp := h2.put k dz
          obtain ⟨r, e⟩ := R.write (o := .dT (putK kvs k w)) (mo' := DV.mo (.t (putP es k z))) hl hA ⟨_, upd_same, rp.ks, rp.vs⟩ lv
          exact ⟨_, .t h1 (fz_of (tp_key t1 t2 hk)).1 (by rw [h2.len]; exact hn), r, e⟩
    · exfalso
      cases y <;> first | exact hy ⟨_, rfl⟩ | cases h
end
section
variable {X : DX} {o i value e f : Expr} {td ty tv tx : ED} {pos pos' apos mpos : Pos}
def dDNewT : ED := fun _ s Q => Q (.ref s.length) (s ++ [some (.dt [] [])])
theorem pd_dnewT : PD X (.Dict [] [] pos) dDNewT := ⟨pe_imp pe_dnewT fun σ H Q ⟨env, s, A, B, w, q⟩ p hp => by
  obtain ⟨r, e⟩ := w.rs.born (o := .dT []) (mo := .dt [] []) hp ⟨[], upd_same, rfl, .nil⟩
  exact q _ _ _ r e (.ref (by rw [← w.rs.len]; simp)), fun _ _ _ _ g q => g _ _ q⟩
def dDGet (td ty : ED) : ED := fun env s Q => td env s fun x s1 => ty env s1 fun y s2 => ∃ dv z, dictD s2 x = some dv ∧ dv.get y = some (some z) ∧ Q z s2
theorem mono_dget (md : Mono td) (my : Mono ty) : Mono (dDGet td ty) := fun _ _ _ _ g h => md _ _ _ _ (fun _ _ h => my _ _ _ _ (fun _ _ ⟨dv, z, a, b, q⟩ => ⟨dv, z, a, b, g _ _ q⟩) h) h
theorem pd_dget (hu : X.A.units + 64 < cLine) (ho : PD X o td) (hi : PD X i ty) (hs : NoSl i) : PD X (.Subscript o i pos) (dDGet td ty) :=
  ⟨pe_imp (pe_dget (by omega) ho.pe hi.pe hs) fun σ H Q ⟨env, s, A, B, w, h⟩ => rdE_go ho.mono w h fun x s1 v H1 A1 h1 w1 e1 dx => rdE_go hi.mono w1 h1 fun y s2 u H2 A2 ⟨dv, z, hd, hg, q⟩ w2 e2 dy => by
    obtain ⟨a, rfl, at'⟩ := dictD_rd w2.rs (dx.ext e2) hd
    obtain ⟨r, g, _, z2⟩ := dget_rd w2.rs at' dy hg
    obtain ⟨wv, rfl, dz⟩ := z2 z rfl
    exact ⟨a, wv, rfl, g, q _ _ _ w2.rs (e1.trans e2) dz⟩, mono_dget ho.mono hi.mono⟩
def dDPut (td ty tv : ED) : SD := fun E env s => tv env s fun z s1 => td env s1 fun x s2 => ty env s2 fun y s3 => ∃ l dv dv', x = .ref l ∧ dictM s3 x = some dv ∧ dv.put y z = some dv' ∧ dv.len < sizeLine ∧ E.nx env (s3.set l (some dv'.mo))
theorem mono_dput (md : Mono td) (my : Mono ty) (mv : Mono tv) : MonoS (dDPut td ty tv) := fun _ _ _ _ g h => mv _ _ _ _ (fun _ _ h => md _ _ _ _ (fun _ _ h => my _ _ _ _ (fun _ _ ⟨l, dv, dv', a, b, c, d, q⟩ => ⟨l, dv, dv', a, b, c, d, g.nx _ _ q⟩) h) h) h
theorem psd_dput (hu : X.A.units + 64 < cLine) (ho : PD X o td) (hi : PD X i ty) (hv : PD X value tv) (hs : swapsWith value (some (.Subscript o i pos')) pos.line X.env = pure false := by rfl) : PSD X (.Assign [.Subscript o i pos'] value pos) (dDPut td ty tv) :=
  ⟨ps_imp (ps_dput (by omega) ho.pe hi.pe hv.pe hs) fun E σ H ⟨env, s, A, B, w, h⟩ => rdE_go hv.mono w h fun z s1 wv H1 A1 h1 w1 e1 dz => rdE_go ho.mono w1 h1 fun x s2 v H2 A2 h2 w2 e2 dx => rdE_go hi.mono w2 h2 fun y s3 u H3 A3 ⟨l, dv, dv', ex, hd, hp, hn, q⟩ w3 e3 dy => by
    obtain ⟨l', a, mo, ex', rfl, hl, hA, at', lv⟩ := dictM_rd w3.rs (dx.ext e3) hd
    rw [ex] at ex'
    cases ex'
    obtain ⟨H', g, r, e⟩ := dput_rd w3.rs hl hA lv at' dy (dz.ext (e2.trans e3)) hp hn
    exact ⟨a, H', rfl, g, q _ _ _ r (((e1.trans e2).trans e3).trans e) (w3.re.ext e)⟩, mono_dput ho.mono hi.mono hv.mono⟩
def dDGet2 (td ty tx : ED) : ED := fun env s Q => td env s fun x s1 => (dictD s1 x).isSome = true ∧ ty env s1 fun y s2 => tx env s2 fun z s3 => ∃ dv o, dictD s3 x = some dv ∧ dv.get y = some o ∧ Q (o.getD z) s3
theorem mono_dget2 (md : Mono td) (my : Mono ty) (mx : Mono tx) : Mono (dDGet2 td ty tx) := fun _ _ _ _ g h => md _ _ _ _ (fun _ _ ⟨hs, h⟩ => ⟨hs, my _ _ _ _ (fun _ _ h => mx _ _ _ _ (fun _ _ ⟨dv, z, a, b, q⟩ => ⟨dv, z, a, b, g _ _ q⟩) h) h⟩) h
theorem isD_rd {K : PySem.W.Frag} {F : Hp} {A : List Addr} {H : Hp} {a : Addr} {dv : DV} (h : DvAt K F A H a dv) : IsD H a := by
  cases dv with
  | k es => obtain ⟨kvs, h, _⟩ := h; exact .inl ⟨kvs, h⟩
  | t es => obtain ⟨kvs, h, _⟩ := h; exact .inr ⟨kvs, h⟩
theorem pd_dget2 (hu : X.A.units + 64 < cLine) (ho : PD X o td) (he : PD X e ty) (hf : PD X f tx) (m : M2 X o "get" apos e f mpos) : PD X (.Call (.Attribute o "get" apos) [e, f] [] mpos) (dDGet2 td ty tx) :=
  ⟨pe_imp (pe_dget2 (by omega) ho.pe he.pe hf.pe m) fun σ H Q ⟨env, s, A, B, w, h⟩ => rdE_go ho.mono w h fun x s1 v H1 A1 ⟨hs, h1⟩ w1 e1 dx => by
    obtain ⟨dv1, hd1⟩ := Option.isSome_iff_exists.mp hs
    obtain ⟨a, rfl, at1⟩ := dictD_rd w1.rs dx hd1
    refine ⟨a, rfl, isD_rd at1, rdE_go he.mono w1 h1 fun y s2 u H2 A2 h2 w2 e2 dy => rdE_go hf.mono w2 h2 fun z s3 wz H3 A3 ⟨dv, od, hd, hg, q⟩ w3 e3 dz => ?_⟩
    obtain ⟨a', ea, at'⟩ := dictD_rd w3.rs (dx.ext (e2.trans e3)) hd
    cases ea
    obtain ⟨r, g, z1, z2⟩ := dget_rd w3.rs at' (dy.ext e3) hg
    refine ⟨r, g, ?_⟩
    cases od with
    | none =>
      rw [z1 rfl]
      exact q _ _ _ w3.rs ((e1.trans e2).trans e3) dz
    | some z' =>
      obtain ⟨wv, rfl, d⟩ := z2 _ rfl
      exact q _ _ _ w3.rs ((e1.trans e2).trans e3) d, mono_dget2 ho.mono he.mono hf.mono⟩
def dFrzD (td : ED) : ED := fun env s Q => td env s fun x s1 => ∃ l dv, x = .ref l ∧ dictM s1 x = some dv ∧ Q dv.d (s1.set l none)
theorem mono_frzD (md : Mono td) : Mono (dFrzD td) := fun _ _ _ _ g h => md _ _ _ _ (fun _ _ ⟨l, dv, a, b, q⟩ => ⟨l, dv, a, b, g _ _ q⟩) h
theorem pd_frzD (ho : PD X o td) : PD X o (dFrzD td) :=
  ⟨pe_imp ho.pe fun σ H Q ⟨env, s, A, B, w, h⟩ => rdE_go ho.mono w h fun x s1 v H1 A1 ⟨l, dv, ex, hd, q⟩ w1 e1 dx => by
    obtain ⟨l', a, mo, ex', rfl, hl, hA, at', _⟩ := dictM_rd w1.rs dx hd
    rw [ex] at ex'
    cases ex'
    obtain ⟨r2, e2, f2⟩ := w1.rs.freeze hl hA
    refine q _ _ _ r2 (e1.trans e2) ?_
    cases dv with
    | k es =>
      obtain ⟨kvs, h1, h2⟩ := at'
      have := Dat.dk (f2 _ h1) (h2.vs.ext e2)
      rw [h2.ks] at this
      exact this
    | t es =>
      obtain ⟨kvs, h1, h2⟩ := at'
      have := Dat.dt (f2 _ h1) (h2.vs.ext e2)
      rw [h2.ks] at this
      exact this, mono_frzD ho.mono⟩
end
end Dl
namespace Dl
open PySem PySem.Spec PyProof.Rows L2
theorem kdl_rawValues {prog : Program} {w : World} {d r : Addr} {es : Array DictEntry} {ep : Nat} :
    PySem.W.KdlSrc prog w "dict_values" r d es.size (fun i v => ∃ hi : i < es.size, v = es[i].val) (fun h => h.IsValuesView r d ∧ h.DictRaw d es ep) where
  type := fun _ hm => hm.1.typeIs
  there := fun _ hm => ⟨let ⟨_, ho, _⟩ := hm.1; Heap.lt_size ho, let ⟨_, ho, _⟩ := hm.2; Heap.lt_size ho⟩
  keep := fun _ _ hm hk => ⟨let ⟨o, ho, x⟩ := hm.1; ⟨o, hk r (.inl rfl) o ho, x⟩, hm.2.at fun o e => hk d (.inr rfl) o e⟩
  notList := by decide
  notTuple := by decide
  hint := fun _ _ _ _ hm hq => PySem.W.kdl_hint_values hm.1.typeIs hq
  iter := fun _ s hh hm => ⟨_, _, (fun _ _ hq => wpAny_pyIter_values_raw hm.1 hm.2 hq), Walks.rawValues hh _ d (let ⟨_, ho, _⟩ := hm.2; Nat.ne_of_lt (Heap.lt_size ho)) es ep, ⟨⟨_, Heap.get?_push_size _ rfl, rfl, rfl⟩, hm.2.at fun o e => Heap.get?_push_of_some _ e⟩⟩
def ValsOf (H : Hp) (a : Addr) (ws : List V) : Prop := (∃ kvs : List (Key × V), Rd H a (.dK kvs) ∧ ws = kvs.map (·.2)) ∨ ∃ kvs : List (List Key × V), Rd H a (.dT kvs) ∧ ws = kvs.map (·.2)
theorem vals_ix : ∀ {κ : Type} {kvs : List (κ × V)} {vs : List (κ × Value)}, KV kvs vs → Vals (kvs.map (·.2)) (vs.map (·.2)) := by
  intro κ kvs vs h
  unfold KV at h
  induction h with
  | nil => exact .nil
  | cons r t ih => exact .cons r.2 ih
theorem vals_ixT {H : Hp} : ∀ {kvs : List (List Key × V)} {xs : List (List Key × Addr × Value)}, KT H kvs xs → Vals (kvs.map (·.2)) (xs.map (·.2.2)) := by
  intro kvs xs h
  unfold KT at h
  induction h with
  | nil => exact .nil
  | cons r t ih => exact .cons r.2.2 ih
theorem vals_raw {P : Program} {w : World} {H : Hp} {h : Heap} {a : Addr} {ws : List V} (ok : HOk P w H h) (e : ValsOf H a ws) :
    (a == sysModules) = false ∧ ∃ (es : Array DictEntry) (ep : Nat) (us : List Value), h.DictRaw a es ep ∧ Vals ws us ∧ us.length = es.size ∧ es.size ≤ sizeLine ∧ ∀ i (hi : i < es.size), us[i]? = some es[i].val := by
  rcases e with ⟨kvs, e, rfl⟩ | ⟨kvs, e, rfl⟩
  · obtain ⟨z, hs, vs, rel, dof⟩ := dk_rd ok e
    obtain ⟨es, ep, raw, hz, hx⟩ := dof.raw
    have hl : kvs.length = vs.length := KV.length rel
    refine ⟨hs, es, ep, vs.map (·.2), raw, vals_ix rel, by rw [List.length_map]; exact hz.symm, by omega, fun i hi => ?_⟩
    obtain ⟨⟨k, v⟩, e1⟩ : ∃ p, vs[i]? = some p := ⟨_, List.getElem?_eq_getElem (by omega)⟩
    rw [List.getElem?_map, e1, (hx i hi k v e1).2]
    rfl
  · obtain ⟨z, hs, xs, rel, dof⟩ := dt_rd ok e
    obtain ⟨es, ep, raw, hz, hx⟩ := dof.raw
    have hl : kvs.length = xs.length := Paired.length rel
    refine ⟨hs, es, ep, xs.map (·.2.2), raw, vals_ixT rel, by rw [List.length_map]; exact hz.symm, by omega, fun i hi => ?_⟩
    obtain ⟨y, e1, _, e2, _⟩ := hx i hi
    rw [List.getElem?_map, e1, e2]
    rfl
def tListVals (td : TE) : TE := fun σ H Q => td σ H fun x H1 => ∃ a ws, x = .ref a ∧ ValsOf H1 a ws ∧ ∀ p, H1 p = none → Q (.ref p) (upd H1 p (.lst ws))
theorem pe_listVals {X : Cx} {o : Expr} {p pos apos mpos : Pos} {td : TE} (hc : X.calm = true) (hg : Gl X "list") (hm : X.mg "list" = none) (hd : PE X o td) (hbase : attributeBase o "values" X.env (eval o X.env) = eval o X.env := by rfl) (hline : (apos.endLine == mpos.line) = true := by rfl)
    (hse : starEach [Expr.Call (.Attribute o "values" apos) [] [] mpos] X.env = [(false, eval (Expr.Call (.Attribute o "values" apos) [] [] mpos) X.env)] := by rfl) :
    PE X (.Call (.Name "list" p) [.Call (.Attribute o "values" apos) [] [] mpos] [] pos) (tListVals td) := by
  refine ⟨fun pins s σ H Q I h => ?_⟩
  refine wpAny_Call_Name_kw (ld_blt I hg hm (u := .type "list") (by first | rfl | decide +kernel) ?_ (by first | decide +kernel | decide) (by first | decide +kernel | decide))
  rw [hse]
  refine PySem.callWith_type1 (wpAny_Call_method0_late hbase hline (thn (hd.run pins s σ H _ I h) fun v s1 ⟨x, H1, I1, r1, a, ws, ex, hk, q⟩ => ?_))
  subst ex
  obtain rfl : v = Value.ref a := r1
  obtain ⟨hs, es, ep, us, raw, rv, hul, hsz, hux⟩ := vals_raw I1.hok hk
  obtain ⟨ob, ho, hex, hdat⟩ := id raw
  refine ⟨"dict", "dict.values", F.plainAttrs_dict, F.slot_dict_values, F.type_dict_values, ⟨ob, ho, hex.1⟩, fun b e => ?_, Calls.callWith_builtin rfl (PySem.evalArgs_none ?_)⟩
  · cases e
    exact ⟨ob, ho, hex.2.1⟩
  refine call_meetsIn F.slot_dict_values ⟨ob, ho, hex.1⟩ F.entry_dict_values (F.args_dict_values_1 _) (meets_dict_values_raw a hs) ⟨⟨es, ep, raw⟩, ?_⟩
  refine PySem.W.kdl_call (r := s1.heap.objs.size) (d := a) (s := { s1 with heap := s1.heap.push { cls := .type "dict_values", data := .fields #[.ref a] } }) (kdl_rawValues (es := es) (ep := ep)) (I1.ok.hd hc) ⟨⟨_, Heap.get?_push_size _ rfl, rfl, rfl⟩, raw.at fun o e => Heap.get?_push_of_some _ e⟩ hsz fun h' tk acc c hkp hob hacc => ?_
  have hsz1 : (s1.heap.push { cls := .type "dict_values", data := .fields #[.ref a] }).objs.size = s1.heap.objs.size + 1 := Heap.size_push _ _
  have eacc : acc = us.toArray := by
    refine Array.ext (hacc.1.trans (hul.symm.trans List.size_toArray.symm)) fun i h1 h2 => ?_
    have hi : i < es.size := by rw [← hacc.1]; exact h1
    obtain ⟨hi', e1⟩ := hacc.2 i acc[i] (Array.getElem?_eq_getElem h1)
    rw [e1]
    have e2 := hux i hi
    have e3 : us[i]'(by rw [hul]; exact hi) = es[i].val := by
      rw [List.getElem?_eq_getElem (by rw [hul]; exact hi)] at e2
      exact Option.some.inj e2
    simpa using e3.symm
  refine ⟨.ref (s1.heap.objs.size + 1), upd H1 (s1.heap.objs.size + 1) (.lst ws), ?_, ?_, q _ (I1.hok.fresh (Nat.le_succ _))⟩
  · refine I1.laid (a := s1.heap.objs.size + 1) (t' := tk) (fun b u e => hkp b u (Heap.get?_push_of_some _ e)) (Nat.le_succ _) ⟨?_, us, c, rv, ?_⟩
    · rw [rv.length, hul]; exact hsz
    · rw [← eacc, ← hsz1]; exact hob
  · show Value.ref _ = Value.ref _
    rw [hsz1]
section
variable {X : DX} {o : Expr} {td : ED} {p pos apos mpos : Pos}
theorem valsOf_rd {K : PySem.W.Frag} {F : Hp} {A : List Addr} {H : Hp} {a : Addr} {dv : DV} (h : DvAt K F A H a dv) : ∃ ws, ValsOf H a ws ∧ DatL K F A dv.vals ws := by
  cases dv with
  | k es => obtain ⟨kvs, h1, h2⟩ := h; exact ⟨_, .inl ⟨kvs, h1, rfl⟩, h2.vs⟩
  | t es => obtain ⟨kvs, h1, h2⟩ := h; exact ⟨_, .inr ⟨kvs, h1, rfl⟩, h2.vs⟩
def dListV (td : ED) : ED := fun env s Q => td env s fun x s1 => ∃ dv, dictD s1 x = some dv ∧ Q (.lst dv.vals) s1
theorem pd_listV (hc : X.calm = true) (hg : Gl X "list") (hm : X.mg "list" = none) (ho : PD X o td) (hbase : attributeBase o "values" X.env (eval o X.env) = eval o X.env := by rfl) (hline : (apos.endLine == mpos.line) = true := by rfl)
    (hse : starEach [Expr.Call (.Attribute o "values" apos) [] [] mpos] X.env = [(false, eval (Expr.Call (.Attribute o "values" apos) [] [] mpos) X.env)] := by rfl) :
    PD X (.Call (.Name "list" p) [.Call (.Attribute o "values" apos) [] [] mpos] [] pos) (dListV td) :=
  ⟨pe_imp (pe_listVals hc hg hm ho.pe hbase hline hse) fun σ H Q ⟨env, s, A, B, w, h⟩ => rdE_go ho.mono w h fun x s1 v H1 A1 ⟨dv, hd, q⟩ w1 e1 dx => by
    obtain ⟨a, rfl, at'⟩ := dictD_rd w1.rs dx hd
    obtain ⟨ws, h1, h2⟩ := valsOf_rd at'
    refine ⟨a, ws, rfl, h1, fun p hp => ?_⟩
    obtain ⟨r2, e2, f2⟩ := w1.rs.laid (o := .lst ws) hp
    exact q _ _ _ r2 (e1.trans e2) (.lst f2 (h2.ext e2)), fun _ _ _ _ g h => ho.mono _ _ _ _ (fun _ _ ⟨dv, a, q⟩ => ⟨dv, a, g _ _ q⟩) h⟩
end
end Dl
namespace Dl
open PySem PySem.Spec PyProof.Rows L2
theorem datL_rep {K : PySem.W.Frag} {F : Hp} {A : List Addr} {ds : List D} {vs : List V} (h : DatL K F A ds vs) : ∀ n : Nat, DatL K F A (List.replicate n ds).flatten (List.replicate n vs).flatten
  | 0 => .nil
  | n + 1 => by
    rw [List.replicate_succ, List.replicate_succ, List.flatten_cons, List.flatten_cons]
    exact h.append (datL_rep h n)
def mulLF (_ : Sto) (x y : D) : Option D := match x, y with
  | .lst xs, .int k => if (-(2 ^ 63) ≤ k ∧ k < 2 ^ 63) ∧ xs.length * k.toNat ≤ sizeLine then some (.lst (List.replicate k.toNat xs).flatten) else none
  | _, _ => none
theorem opx_mulL {X : Cx} : OpX X (binaryOp .Mult) (oF mulLF) := opx_of op_rep fun x y s v w H A B Q R dv dw ⟨z, e, q⟩ => by
  unfold mulLF at e
  split at e
  · split at e
    · rename_i hc
      cases e
      cases dw
      cases dv with
      | lst h1 h2 =>
        refine ⟨_, _, _, rfl, rfl, (fz_of h1).1, hc.1.1, hc.1.2, by rw [h2.length]; exact hc.2, fun p hp => ?_⟩
        exact q.new R hp fun F e f => .lst f ((datL_rep h2 _).mono e fun _ _ h => h)
    · cases e
  · cases e
end Dl
namespace Dl
open PySem PySem.Spec PyProof.Rows L2
noncomputable def srt (ds : List D) : List D := ds.mergeSort (PySem.W.dataLe false pyD)
section
variable {K : PySem.W.Frag} {F : Hp} {A0 : List Addr}
theorem each_of : ∀ {ds : List D} {vs : List V} {us : List Value}, DatL K F A0 ds vs → Vals vs us → PySem.W.EachIs (fun u d => ∃ v, RelV v u ∧ Dat K F A0 d v) us ds
  | [], _, _, h, r => by cases h; cases r; exact .nil
  | d :: ds, _, _, h, r => by
    cases h with
    | cons h1 h2 =>
      cases r with
      | cons r1 r2 => exact .cons ⟨_, r1, h1⟩ (each_of h2 r2)
theorem of_each : ∀ {ds : List D} {us : List Value}, PySem.W.EachIs (fun u d => ∃ v, RelV v u ∧ Dat K F A0 d v) us ds → ∃ vs, Vals vs us ∧ DatL K F A0 ds vs
  | _, _, .nil => ⟨[], .nil, .nil⟩
  | _, _, .cons ⟨v, r, d⟩ t => by
    obtain ⟨vs, h1, h2⟩ := of_each t
    exact ⟨v :: vs, .cons r h1, .cons d h2⟩
end
def kD : Key → D
  | .inl i => .int i
  | .inr z => .str z
def itT (p : List Key × Int) : D := .tup [.tup (p.1.map kD), .int p.2]
theorem RepS.growN {K : PySem.W.Frag} {B : List Addr} {H H' : Hp} {A : List Addr} {s : Sto} (R : RepS K B H A s) (g : LamX.ExtN H H') (tb : LamX.Tabs (tabsOf K) H') : RepS K B H' A s ∧ Ext B H A s H' A s := by
  have eq : ∀ a, H a ≠ none → (∀ ps, H a ≠ some (.tbl ps)) → H' a = H a := fun a ha hx => by
    cases h : H a with
    | none => exact absurd h ha
    | some o => exact g a o h fun ps z => hx ps (by rw [h, z])
  have eA : ∀ a ∈ A, H' a = H a := fun a ha => eq a (R.hd a ha) (R.hx a ha)
  have eB : ∀ b ∈ B, H' b = H b := fun b hb => eq b (R.hb b hb) fun ps z => (R.ht b hb _ z).b ps rfl
  have e1 : Same (Fz B H A s) (Fz B H' A s) := fun b u h => by
    obtain ⟨h1, h2, h3⟩ := fz_of h
    exact fz_to (g b u h1 (fz_nt h)) h2 h3 (fz_nt h)
  refine ⟨⟨R.len, R.inj, fun a ha => by rw [eA a ha]; exact R.hd a ha, fun b hb => by rw [eB b hb]; exact R.hb b hb, R.ab, fun b hb => by rw [eB b hb]; exact R.ht b hb, fun a ha => by rw [eA a ha]; exact R.hx a ha, tb, fun l mo h => ?_⟩, ⟨e1, fun _ _ h => h, eB⟩⟩
  obtain ⟨a, ha, ho⟩ := R.ob l mo h
  exact ⟨a, ha, ho.mono e1 (fun _ _ h => h) (eA a (List.mem_of_getElem? ha))⟩
theorem RepS.grow {K : PySem.W.Frag} {B : List Addr} {H H' : Hp} {A : List Addr} {s : Sto} (R : RepS K B H A s) (g : ∀ b o, H b = some o → H' b = some o) : RepS K B H' A s ∧ Ext B H A s H' A s := R.growN (.of g) (R.tb.ext g)
noncomputable def srtI (es : List (List Key × Int)) : List (List Key × Int) := es.mergeSort (PySem.W.dataLe false fun p => pyD (itT p))
structure SortIt (es : List (List Key × Int)) : Prop where
  al : PySem.W.AllAlike (es.map fun p => pyD (itT p))
  ln : es.length ≤ sizeLine
  dp : ∀ p ∈ es, (pyD (itT p)).depth ≤ 40
  ks : ∀ p ∈ es, ∀ k ∈ p.1, ∀ z, k = Sum.inr z → z.length ≤ sizeLine
def tSortIt (td : TE) : TE := fun σ H Q => td σ H fun x H1 => ∃ (a : Addr) (es : List (List Key × Int)), x = .ref a ∧ Rd H1 a (.dT (es.map fun p => (p.1, V.int p.2))) ∧ SortIt es ∧
  ∀ (H2 : Hp) (l : Addr) (ps : List (Addr × (List Key × Int))), (∀ b o, H1 b = some o → H2 b = some o) → H1 l = none → ps.map (·.2) = srtI es → H2 l = some (.lst (ps.map fun z => V.ref z.1)) →
    (∀ z ∈ ps, ∃ q, H2 z.1 = some (.tup [.ref q, .int z.2.2]) ∧ H2 q = some (.tup (z.2.1.map kV))) → Q (.ref l) H2
theorem reads_keys {h : Heap} : ∀ {ks : List Key} {us : List Value}, Vals (ks.map kV) us → ReadsAll h us (pyL (ks.map kD)) []
  | [], _, r => by cases r; exact .nil
  | k :: ks, _, r => by
    cases r with
    | cons r1 r2 =>
      have e : pyL ((k :: ks).map kD) = pyD (kD k) :: pyL (ks.map kD) := rfl
      rw [e]
      cases k with
      | inl i => obtain ⟨t, rfl⟩ := r1; exact .cons (as := []) (bs := []) (.int i t) (reads_keys r2)
      | inr z => obtain ⟨t, rfl⟩ := r1; exact .cons (as := []) (bs := []) (.str z t) (reads_keys r2)
theorem each_zip {α β : Type} {R : Value → α × β → Prop} {f : α → Value} : ∀ {as : List α} {bs : List β}, as.length = bs.length → (∀ (j : Nat) (a : α) (b : β), as[j]? = some a → bs[j]? = some b → R (f a) (a, b)) → PySem.W.EachIs R (as.map f) (as.zip bs)
  | [], [], _, _ => .nil
  | [], _ :: _, h, _ => by simp at h
  | _ :: _, [], h, _ => by simp at h
  | a :: as, b :: bs, h, g => .cons (g 0 a b rfl rfl) (each_zip (by simpa using h) fun j a b h1 h2 => g (j + 1) a b h1 h2)
theorem each_refs {β : Type} : ∀ {us : List Value} {zs : List (Addr × β)}, PySem.W.EachIs (fun v (z : Addr × β) => v = .ref z.1) us zs → us = zs.map fun z => Value.ref z.1
  | _, _, .nil => rfl
  | _, _, .cons h t => by rw [each_refs t, h]; rfl
theorem pe_sortIt {X : Cx} {o : Expr} {p pos apos mpos : Pos} {td : TE} (hc : X.calm = true) (hu : X.A.units + 64 < cLine) (hg : Gl X "sorted") (hm : X.mg "sorted" = none) (hd : PE X o td) (hbase : attributeBase o "items" X.env (eval o X.env) = eval o X.env := by rfl) (hline : (apos.endLine == mpos.line) = true := by rfl)
    (hse : starEach [Expr.Call (.Attribute o "items" apos) [] [] mpos] X.env = [(false, eval (Expr.Call (.Attribute o "items" apos) [] [] mpos) X.env)] := by rfl) :
    PE X (.Call (.Name "sorted" p) [.Call (.Attribute o "items" apos) [] [] mpos] [] pos) (tSortIt td) := by
  refine ⟨fun pins s σ H Q I h => ?_⟩
  refine wpAny_Call_Name_kw (ld_blt I hg hm (u := .builtin "sorted") (by first | rfl | decide +kernel) ?_ (by first | decide +kernel | decide) (by first | decide +kernel | decide))
  rw [hse]
  refine PySem.callWith_builtin1 (wpAny_Call_method0_late hbase hline (thn (hd.run pins s σ H _ I h) fun v s1 ⟨x, H1, I1, r1, a, es, ex, ha, ok, q⟩ => ?_))
  subst ex
  obtain rfl : v = Value.ref a := r1
  obtain ⟨hz, hs, xs, rel, dof⟩ := dt_rd I1.hok ha
  obtain ⟨des, ep, raw, dsz, hx⟩ := dof.raw
  have l1 : (es.map fun p => (p.1, V.int p.2)).length = xs.length := Paired.length rel
  rw [List.length_map] at l1
  obtain ⟨ob, ho, hex, hdat⟩ := id raw
  refine ⟨"dict", "dict.items", F.plainAttrs_dict, F.slot_dict_items, F.type_dict_items, ⟨ob, ho, hex.1⟩, fun b e => ?_, Calls.callWith_builtin rfl (PySem.evalArgs_none ?_)⟩
  · cases e
    exact ⟨ob, ho, hex.2.1⟩
  refine call_meetsIn F.slot_dict_items ⟨ob, ho, hex.1⟩ F.entry_dict_items (F.args_dict_items_1 _) (meets_dict_items_raw a hs) ⟨⟨des, ep, raw⟩, ?_⟩
  have I0 : Inv X pins σ H1 { s1 with heap := s1.heap.push { cls := .type "dict_items", data := .fields #[.ref a] } } := I1.kept (t' := s1.toks) fun b ob q => Heap.get?_push_of_some _ q
  generalize hs2 : ({ s1 with heap := s1.heap.push { cls := .type "dict_items", data := .fields #[.ref a] } } : Shared) = s2 at I0
  have view : s2.heap.IsItemsView s1.heap.objs.size a := by rw [← hs2]; exact ⟨_, Heap.get?_push_size _ rfl, rfl, rfl⟩
  have raw2 : s2.heap.DictRaw a des ep := by rw [← hs2]; exact raw.at fun o e => Heap.get?_push_of_some _ e
  refine DT.sortedI (es := des) (ep := ep) (I0.ok.hd hc) view raw2 (by rw [dsz, ← l1]; exact ok.ln) fun h' tk as hk hlt hl hG => ?_
  have lak : as.length = es.length := by omega
  have nd : as.Nodup := List.Pairwise.imp (fun h => Nat.ne_of_lt h) hG.rise
  have pr : ∀ (j : Nat) (b : Addr), as[j]? = some b → ∃ (e : List Key × Int) (kq : Addr) (t : Tok), es[j]? = some e ∧ H1 kq = some (.tup (e.1.map kV)) ∧ h'.get? b = some { cls := .type "tuple", data := .seq #[Value.ref kq, Value.int e.2 t] } := by
    intro j b hj
    obtain ⟨en, he, hg⟩ := hG.pairs j b hj
    have hjs : j < des.size := (Array.getElem?_eq_some_iff.mp he).1
    obtain ⟨y, hy, hk1, hk2, _⟩ := hx j hjs
    obtain ⟨e0, he0, r1, r2, r3⟩ := L2.DX.pget rel hy
    rw [List.getElem?_map] at he0
    cases hej : es[j]? with
    | none => rw [hej] at he0; cases he0
    | some e =>
      rw [hej] at he0
      cases he0
      obtain ⟨t, ht⟩ := r3
      refine ⟨e, y.2.1, t, rfl, r2, ?_⟩
      rw [hg]
      have een : en = des[j] := by
        rw [Array.getElem?_eq_getElem hjs] at he
        exact (Option.some.inj he).symm
      rw [een, hk1, hk2, ht]
  have hob : (h'.push { cls := .type "list", data := .seq (as.map Value.ref).toArray }).get? h'.objs.size = some (seqObj "list" (as.map Value.ref).toArray 0) := Heap.get?_push_size _ rfl
  have kb : ∀ b o, s2.heap.get? b = some o → (h'.push { cls := .type "list", data := .seq (as.map Value.ref).toArray }).get? b = some o := fun b o e => Heap.get?_push_of_some _ (hk b o e)
  have ne0 : ∀ b o, h'.get? b = some o → b ≠ h'.objs.size := fun b o e => Nat.ne_of_lt (Heap.lt_size e)
  generalize hh2 : h'.push { cls := .type "list", data := .seq (as.map Value.ref).toArray } = h2 at hob kb ⊢
  have ka : ∀ b o, h'.get? b = some o → h2.get? b = some o := fun b o e => by rw [← hh2]; exact Heap.get?_push_of_some _ e
  have er : PySem.W.EachIs (fun v (z : Addr × (List Key × Int)) => ∃ al, Reads h2 v (pyD (itT z.2)) al ∧ h'.objs.size ∉ al) (as.map Value.ref) (as.zip es) := by
    refine each_zip lak fun j b e hj he => ?_
    obtain ⟨e', kq, t, he', hkq, hg⟩ := pr j b hj
    rw [he] at he'; cases he'
    obtain ⟨_, its, rv, ot, hot, hct, nt, hdt⟩ := (show ObjOk X.prog X.w H1 s2.heap kq (.tup (e.1.map kV)) from I0.hok kq _ hkq)
    have rk : Reads h2 (.ref kq) (.tuple (pyL (e.1.map kD))) [] := .tuple (kb _ _ hot) hct hdt (reads_keys rv)
    have ri : Reads h2 (.int e.2 t) (.int e.2) [] := .int _ _
    exact ⟨[], .tuple (n := 0) (vs := #[Value.ref kq, Value.int e.2 t]) (ka _ _ hg) rfl rfl (.cons (as := []) (bs := []) rk (.cons (as := []) (bs := []) ri .nil)), by simp⟩
  have e0 : PySem.W.EachIs (fun v (z : Addr × (List Key × Int)) => v = .ref z.1) (as.map Value.ref) (as.zip es) := each_zip lak fun j b e _ _ => rfl
  have msnd : (as.zip es).map (·.2) = es := List.map_snd_zip (Nat.le_of_eq lak.symm)
  have menc : (as.zip es).map (fun z => pyD (itT z.2)) = es.map fun p => pyD (itT p) := by
    conv => rhs; rw [← msnd]
    rw [List.map_map]; rfl
  refine PySem.W.list_sort_data (R := fun v (z : Addr × (List Key × Int)) => v = .ref z.1) (enc := fun z => pyD (itT z.2)) (bs := as.zip es) (s := { s2 with heap := h2, toks := tk }) hob e0 er (by rw [menc]; exact ok.al) (.inl fun d hd => ?_) (by rw [List.length_zip]; have := ok.ln; omega) (fun z hz => ?_) fun out hol eo => ?_
  · obtain ⟨z, _, rfl⟩ := List.mem_map.mp hd
    exact ⟨_, _, rfl⟩
  · have := ok.dp z.2 (by rw [← msnd]; exact List.mem_map.mpr ⟨z, hz, rfl⟩)
    show X.A.units + 1 + 1 + _ < cLine
    omega
  · have hout := each_refs eo
    obtain ⟨zs, hzs⟩ : ∃ zs, (as.zip es).mergeSort (PySem.W.dataLe false fun z => pyD (itT z.2)) = zs := ⟨_, rfl⟩
    rw [hzs] at hout
    have hmap : zs.map (·.2) = srtI es := by
      have hm := List.map_mergeSort (r := PySem.W.dataLe false fun z : Addr × (List Key × Int) => pyD (itT z.2)) (s := PySem.W.dataLe false fun p => pyD (itT p)) (f := fun z : Addr × (List Key × Int) => z.2) (l := as.zip es) (fun a _ b _ => rfl)
      rw [← hzs, hm, msnd]; rfl
    have hperm : zs.Perm (as.zip es) := by rw [← hzs]; exact List.mergeSort_perm _ _
    have idx : ∀ z ∈ zs, ∃ j : Nat, as[j]? = some z.1 ∧ es[j]? = some z.2 := by
      intro z' hz'
      obtain ⟨j, hj⟩ := List.mem_iff_getElem?.mp (hperm.mem_iff.mp hz')
      exact ⟨j, List.getElem?_zip_eq_some.mp hj⟩
    show EP X pins σ Q (.ref h'.objs.size) { s2 with heap := sortedHeap h2 h'.objs.size (as.map Value.ref) out.toArray, toks := tk }
    have kF : ∀ b o, b ≠ h'.objs.size → h2.get? b = some o → (sortedHeap h2 h'.objs.size (as.map Value.ref) out.toArray).get? b = some o := fun b o hb e => (PyProof.Rows.sortedHeap_old hb (Heap.lt_size e)).trans e
    have kS : ∀ b o, s2.heap.get? b = some o → (sortedHeap h2 h'.objs.size (as.map Value.ref) out.toArray).get? b = some o := fun b o e => kF b o (ne0 _ _ (hk b o e)) (kb b o e)
    obtain ⟨eF, heF⟩ := PyProof.Rows.sortedHeap_at (vs := as.map Value.ref) (out := out.toArray) hob
    have I3 : Inv X pins σ H1 { s2 with heap := sortedHeap h2 h'.objs.size (as.map Value.ref) out.toArray, toks := tk } := I0.kept (t' := tk) kS
    have hn0 : H1 h'.objs.size = none := I0.hok.fresh (Nat.le_of_lt hlt)
    have hlen : (zs.map fun z => V.ref z.1).length ≤ sizeLine := by
      rw [List.length_map, hperm.length_eq, List.length_zip]
      have := ok.ln; omega
    have rv : Vals (zs.map fun z => V.ref z.1) out := by
      rw [hout]
      exact vals_maps (fun z : Addr × (List Key × Int) => V.ref z.1) (fun z => Value.ref z.1) zs fun _ _ => rfl
    have I4 : Inv X pins σ (upd H1 h'.objs.size (.lst (zs.map fun z => V.ref z.1))) { s2 with heap := sortedHeap h2 h'.objs.size (as.map Value.ref) out.toArray, toks := tk } :=
      I3.take (h' := sortedHeap h2 h'.objs.size (as.map Value.ref) out.toArray) (t' := tk) (fun b ob _ e => e) (I0.fpOk (Nat.le_of_lt hlt) hn0) ⟨hlen, out, eF, rv, heF⟩
    obtain ⟨H2, I5, g, qt⟩ := L2.DX.takeT (P := fun b vs => ∃ (j : Nat) (e : List Key × Int) (kq : Addr), as[j]? = some b ∧ es[j]? = some e ∧ vs = [.ref kq, .int e.2] ∧ H1 kq = some (.tup (e.1.map kV))) I0 as _ I4 nd fun b hb => by
      obtain ⟨j, hj⟩ := List.mem_iff_getElem?.mp hb
      obtain ⟨e, kq, t, he, hkq, hg⟩ := pr j b hj
      have hbl : s2.heap.objs.size ≤ b := Nat.le_of_lt (hG.above b hb)
      refine ⟨hbl, ?_, [.ref kq, .int e.2], ⟨j, e, kq, hj, he, rfl, hkq⟩, fun H3 => ⟨(by rw [sizeLine_eq]; show 2 ≤ 16777216; omega), [Value.ref kq, Value.int e.2 t], .cons rfl (.cons ⟨t, rfl⟩ .nil), ⟨_, kF _ _ (ne0 _ _ hg) (ka _ _ hg), rfl, 0, rfl⟩⟩⟩
      rw [upd_ne (ne0 _ _ hg)]
      exact I0.hok.fresh hbl
    have gr : ∀ b o, H1 b = some o → H2 b = some o := fun b o e => g b o (by rw [upd_ne (ne_of_none e hn0)]; exact e)
    refine ⟨.ref h'.objs.size, H2, I5, rfl, q H2 h'.objs.size zs gr hn0 hmap (g _ _ upd_same) fun z' hz' => ?_⟩
    obtain ⟨i, i1, i2⟩ := idx z' hz'
    obtain ⟨vs, ⟨j, e, kq, j1, j2, ev, hkq⟩, hH⟩ := qt z'.1 (List.mem_of_getElem? i1)
    have eij : i = j := (List.getElem?_inj (List.getElem?_eq_some_iff.mp i1).1 nd).mp (i1.trans j1.symm)
    subst eij
    have ee : e = z'.2 := Option.some.inj (j2.symm.trans i2)
    rw [ev, ee] at hH
    rw [ee] at hkq
    exact ⟨kq, hH, gr _ _ hkq⟩
theorem relG_ints {K : PySem.W.Frag} {F : Hp} {A : List Addr} : ∀ {is : List (List Key × Int)} {kvs : List (List Key × V)}, RelG K F A (is.map fun p => (p.1, D.int p.2)) kvs → kvs = is.map fun p => (p.1, V.int p.2)
  | [], [], _ => rfl
  | [], _ :: _, h => by cases h.ks
  | _ :: _, [], h => by cases h.ks
  | p :: is, q :: kvs, h => by
    have h1 := h.ks
    rw [List.map_cons, List.map_cons, List.map_cons] at h1
    injection h1 with e1 e2
    have h2 := h.vs
    rw [List.map_cons, List.map_cons, List.map_cons] at h2
    cases h2 with
    | cons d1 d2 =>
      have e3 : q.2 = V.int p.2 := by cases hq : q.2 <;> rw [hq] at d1 <;> cases d1; rfl
      rw [relG_ints (is := is) (kvs := kvs) ⟨e2, d2⟩, List.map_cons]
      congr 1
      exact Prod.ext e1 e3
section
variable {X : DX} {o : Expr} {td : ED} {p pos apos mpos : Pos}
def dSortIt (td : ED) : ED := fun env s Q => td env s fun x s1 => ∃ is : List (List Key × Int), dictD s1 x = some (.t (is.map fun p => (p.1, D.int p.2))) ∧ SortIt is ∧ Q (.lst ((srtI is).map itT)) s1
theorem keys_dat {K : PySem.W.Frag} {F : Hp} {A : List Addr} : ∀ {ks : List Key}, (∀ k ∈ ks, ∀ z, k = Sum.inr z → z.length ≤ sizeLine) → DatL K F A (ks.map kD) (ks.map kV)
  | [], _ => .nil
  | k :: ks, h => by
    have h2 := keys_dat (K := K) (F := F) (A := A) (ks := ks) fun k hk => h k (List.mem_cons_of_mem _ hk)
    cases k with
    | inl i => exact .cons (.int i) h2
    | inr z => exact .cons (.str z (h _ List.mem_cons_self z rfl)) h2
theorem items_dat {K : PySem.W.Frag} {B : List Addr} {H2 : Hp} {A : List Addr} {s : Sto} (R : RepS K B H2 A s) : ∀ {ps : List (Addr × (List Key × Int))}, (∀ z ∈ ps, ∃ q, H2 z.1 = some (.tup [.ref q, .int z.2.2]) ∧ H2 q = some (.tup (z.2.1.map kV))) → (∀ z ∈ ps, ∀ k ∈ z.2.1, ∀ x, k = Sum.inr x → x.length ≤ sizeLine) →
    DatL K (Fz B H2 A s) A ((ps.map (·.2)).map itT) (ps.map fun z => V.ref z.1)
  | [], _, _ => .nil
  | z :: ps, h, hk => by
    obtain ⟨q, h1, h2⟩ := h z List.mem_cons_self
    refine .cons (.tup (.of (R.tup_fz h1)) (.cons (.tup (.of (R.tup_fz h2)) (keys_dat (hk z List.mem_cons_self))) (.cons (.int _) .nil))) (items_dat R (fun y hy => h y (List.mem_cons_of_mem _ hy)) fun y hy => hk y (List.mem_cons_of_mem _ hy))
theorem pd_sortIt (hc : X.calm = true) (hu : X.A.units + 64 < cLine) (hg : Gl X "sorted") (hm : X.mg "sorted" = none) (ho : PD X o td) (hbase : attributeBase o "items" X.env (eval o X.env) = eval o X.env := by rfl) (hline : (apos.endLine == mpos.line) = true := by rfl)
    (hse : starEach [Expr.Call (.Attribute o "items" apos) [] [] mpos] X.env = [(false, eval (Expr.Call (.Attribute o "items" apos) [] [] mpos) X.env)] := by rfl) :
    PD X (.Call (.Name "sorted" p) [.Call (.Attribute o "items" apos) [] [] mpos] [] pos) (dSortIt td) :=
  ⟨pe_imp (pe_sortIt hc hu hg hm ho.pe hbase hline hse) fun σ H Q ⟨env, s, A, B, w, h⟩ => rdE_go ho.mono w h fun x s1 v H1 A1 ⟨is, hd, ok, q⟩ w1 e1 dx => by
    obtain ⟨a, rfl, kvs, h1, h2⟩ := dictD_rd w1.rs dx hd
    rw [relG_ints h2] at h1
    refine ⟨a, is, rfl, h1, ok, fun H2 l ps g hl hps hH hz => ?_⟩
    obtain ⟨r2, e2⟩ := w1.rs.grow g
    have hpk : ∀ z ∈ ps, ∀ k ∈ z.2.1, ∀ x, k = Sum.inr x → x.length ≤ sizeLine := fun z hz' k hk x hx => by
      have hm : z.2 ∈ srtI is := by rw [← hps]; exact List.mem_map.mpr ⟨z, hz', rfl⟩
      exact ok.ks z.2 ((List.mergeSort_perm _ _).mem_iff.mp hm) k hk x hx
    have dd := items_dat r2 hz hpk
    rw [hps] at dd
    refine q _ _ _ r2 (e1.trans e2) (.lst (fz_to hH (fun ⟨k, mo, k1, k2, _⟩ => w1.rs.hd l (List.mem_of_getElem? k2) hl) fun hb => w1.rs.hb l hb hl) dd), fun _ _ _ _ g h => ho.mono _ _ _ _ (fun _ _ ⟨is, a, b, q⟩ => ⟨is, a, b, g _ _ q⟩) h⟩
end
end Dl
namespace Dl
open PySem PySem.Spec PyProof.Rows L2
mutual
inductive RdS (h : Heap) : Value → PyData → Prop
  | leaf {v : Value} {d : PyData} : Reads h v d [] → d.hasDict = false → RdS h v d
  | dict {a : Addr} {kvs : List (PyData × PyData)} : Reads h (.ref a) (.dict kvs) [a] → (a == sysModules) = false → RdS h (.ref a) (.dict kvs)
  | list {a : Addr} {o : Obj} {vs : Array Value} {n : Nat} {xs : List PyData} : h.get? a = some o → o.cls = .type "list" → o.data = .seq vs n → RdSL h vs.toList xs → RdS h (.ref a) (.list xs)
  | tuple {a : Addr} {o : Obj} {vs : Array Value} {n : Nat} {xs : List PyData} : h.get? a = some o → o.cls = .type "tuple" → o.data = .seq vs n → RdSL h vs.toList xs → RdS h (.ref a) (.tuple xs)
inductive RdSL (h : Heap) : List Value → List PyData → Prop
  | nil : RdSL h [] []
  | cons {v : Value} {vs : List Value} {d : PyData} {ds : List PyData} : RdS h v d → RdSL h vs ds → RdSL h (v :: vs) (d :: ds)
end
mutual
theorem RdS.reads {h : Heap} : ∀ {v : Value} {d : PyData}, RdS h v d → ∃ as, Reads h v d as
  | _, _, .leaf r _ => ⟨_, r⟩
  | _, _, .dict r _ => ⟨_, r⟩
  | _, _, .list h1 h2 h3 h4 => let ⟨_, r⟩ := RdSL.reads h4; ⟨_, .list h1 h2 h3 r⟩
  | _, _, .tuple h1 h2 h3 h4 => let ⟨_, r⟩ := RdSL.reads h4; ⟨_, .tuple h1 h2 h3 r⟩
theorem RdSL.reads {h : Heap} : ∀ {vs : List Value} {ds : List PyData}, RdSL h vs ds → ∃ as, ReadsAll h vs ds as
  | _, _, .nil => ⟨_, .nil⟩
  | _, _, .cons h1 h2 => let ⟨_, r⟩ := RdS.reads h1; let ⟨_, rs⟩ := RdSL.reads h2; ⟨_, .cons r rs⟩
end
section
variable {prog : Program} {w : World} {h : Heap}
theorem dict_side {a : Addr} (hs : (a == sysModules) = false) : sysModules ∉ [a] := fun z => by
  rw [List.mem_singleton.mp z] at hs
  simp at hs
mutual
theorem RdS.shows : ∀ {v : Value} {d : PyData}, RdS h v d → d.showable = true → d.shown.length ≤ sizeLine → ∃ bs, ReadAtMost h d.depth bs ∧ ReprK prog w bs h d.depth v d.shown
  | _, _, .leaf r hn, hs, hz => ReprK.of_reads r hs (PyData.noDict_hsm hn) hz
  | _, _, .dict r hm, hs, hz => ReprK.of_reads r hs (fun _ => dict_side hm) hz
  | _, _, .list (a := a) (o := o) (vs := vs) (n := n) (xs := xs) h1 h2 h3 h4, hs, hz => by
    rw [PyData.shown] at hz
    rw [PyData.showable] at hs
    obtain ⟨bs, low, all⟩ := RdSL.shows h4 hs fun t ht => Nat.le_trans (listText_mem_le ht) hz
    obtain ⟨as, ra⟩ := h4.reads
    have whole : Reads h (.ref a) (.list xs) (a :: as) := .list h1 h2 h3 ra
    have out : a ∉ bs := not_mem_of_deeper whole (by rw [PyData.depth]; omega) low
    refine ⟨a :: bs, ReadAtMost.cons whole (by rw [PyData.depth]; omega) low, ?_⟩
    rw [PyData.depth, PyData.shown]
    rcases vs with ⟨_ | ⟨x, l⟩⟩
    · have none' : RdSL h [] xs := h4
      cases none'
      rw [PyData.shownAll, listText_nil]
      exact ReprK.listEmpty h1 h2 h3
    · exact ReprK.list h1 h2 h3 out (by have := all.length_eq; simpa using this) fun i y e => all.item i y (by simpa using e)
  | _, _, .tuple (a := a) (o := o) (vs := vs) (n := n) (xs := xs) h1 h2 h3 h4, hs, hz => by
    rw [PyData.shown] at hz
    rw [PyData.showable] at hs
    obtain ⟨bs, low, all⟩ := RdSL.shows h4 hs fun t ht => Nat.le_trans (tupleText_mem_le ht) hz
    obtain ⟨as, ra⟩ := h4.reads
    have whole : Reads h (.ref a) (.tuple xs) as := .tuple h1 h2 h3 ra
    have out : a ∉ bs := not_mem_of_deeper whole (by rw [PyData.depth]; omega) low
    refine ⟨a :: bs, ReadAtMost.cons whole (by rw [PyData.depth]; omega) low, ?_⟩
    rw [PyData.depth, PyData.shown]
    exact ReprK.tuple h1 h2 h3 out all
theorem RdSL.shows : ∀ {vs : List Value} {ds : List PyData}, RdSL h vs ds → PyData.showableAll ds = true → (∀ t ∈ PyData.shownAll ds, t.length ≤ sizeLine) →
    ∃ bs, ReadAtMost h (PyData.depthAll ds) bs ∧ ReprAllK prog w bs h (PyData.depthAll ds) vs (PyData.shownAll ds)
  | _, _, .nil, _, _ => ⟨[], (fun _ h => nomatch h), by simp only [PyData.shownAll]; exact .nil⟩
  | _, _, .cons (d := d) (ds := ds) r rs, hs, hz => by
    rw [PyData.showableAll, Bool.and_eq_true] at hs
    rw [PyData.shownAll] at hz
    obtain ⟨b1, l1, k1⟩ := RdS.shows r hs.1 (hz _ List.mem_cons_self)
    obtain ⟨b2, l2, k2⟩ := RdSL.shows rs hs.2 fun t ht => hz t (List.mem_cons_of_mem _ ht)
    rw [PyData.depthAll, PyData.shownAll]
    exact ⟨b1 ++ b2, (l1.mono (Nat.le_max_left _ _)).append (l2.mono (Nat.le_max_right _ _)),
      .cons ((k1.more fun b hb => List.mem_append_left _ hb).level_le (Nat.le_max_left _ _)) (k2.more_le (fun b hb => List.mem_append_right _ hb) (Nat.le_max_right _ _))⟩
end
theorem RdS.by {a : Addr} {d : PyData} (r : RdS h (.ref a) d) (hs : d.showable = true) (hz : d.shown.length ≤ sizeLine) : ∃ T idr, ShowsBy prog w h a d T idr := by
  cases r with
  | leaf r hn => exact showsBy_of_reads r hs (PyData.noDict_hsm hn) hz
  | dict r hm => exact showsBy_of_reads r hs (fun _ => dict_side hm) hz
  | @list _ o vs n xs h1 h2 h3 h4 =>
    rw [PyData.shown] at hz
    rw [PyData.showable] at hs
    obtain ⟨bs, low, all⟩ := RdSL.shows (prog := prog) (w := w) h4 hs fun t ht => Nat.le_trans (listText_mem_le ht) hz
    obtain ⟨as, ra⟩ := h4.reads
    have out : a ∉ bs := not_mem_of_deeper (.list h1 h2 h3 ra) (by rw [PyData.depth]; omega) low
    refine ⟨"list", "list.__repr__", F.slot_list_repr.toG, F.slot_list_str, F.slot_list_format, fun s k => ⟨o, k _ _ h1, h2⟩, fun A E s Q hg hu k hQ => ?_⟩
    rw [PyData.depth] at hu
    rw [PyData.shown] at hQ
    rcases vs with ⟨_ | ⟨x, l⟩⟩
    · have none' : RdSL h [] xs := h4
      cases none'
      rw [PyData.shownAll, listText_nil] at hQ
      exact call_list_repr_empty ⟨o, k _ _ h1, h2⟩ (k _ _ h1) h3 (hQ s.heap _ _ fun _ _ e => e)
    · exact call_list_reprK h1 h2 h3 out (by have := all.length_eq; simpa using this) (fun i y e => all.item i y (by simpa using e)) hg (fun b _ => Clear.nil b) hu k hQ hz
  | @tuple _ o vs n xs h1 h2 h3 h4 =>
    rw [PyData.shown] at hz
    rw [PyData.showable] at hs
    obtain ⟨bs, low, all⟩ := RdSL.shows (prog := prog) (w := w) h4 hs fun t ht => Nat.le_trans (tupleText_mem_le ht) hz
    obtain ⟨as, ra⟩ := h4.reads
    have out : a ∉ bs := not_mem_of_deeper (.tuple h1 h2 h3 ra) (by rw [PyData.depth]; omega) low
    refine ⟨"tuple", "tuple.__repr__", F.slot_tuple_repr, F.slot_tuple_str, F.slot_tuple_format, fun s k => ⟨o, k _ _ h1, h2⟩, fun A E s Q hg hu k hQ => ?_⟩
    rw [PyData.depth] at hu
    rw [PyData.shown] at hQ
    exact call_tuple_reprK h1 h2 h3 out all hg (fun b _ => Clear.nil b) hu k hQ hz
end
def keyP : Key → PyData
  | .inl i => .int i
  | .inr z => .str z
def scal : D → Bool
  | .int _ => true
  | .str _ => true
  | .bl _ => true
  | .non => true
  | _ => false
mutual
def pyE : D → PyData
  | .bl b => .bool b
  | .int i => .int i
  | .str z => .str z
  | .non => .none
  | .tup xs => .tuple (pyEL xs)
  | .lst xs => .list (pyEL xs)
  | .frl xs => .list (pyEL xs)
  | .dk ks xs => .dict ((ks.map keyP).zip (pyEL xs))
  | .dt _ _ => .none
  | .ref _ => .none
  | .exc _ _ _ => .none
def pyEL : List D → List PyData
  | [] => []
  | x :: xs => pyE x :: pyEL xs
end
mutual
def seqsE : D → Bool
  | .tup xs => seqsEL xs
  | .lst xs => seqsEL xs
  | .frl xs => seqsEL xs
  | .dk _ xs => xs.all scal
  | .dt _ _ => false
  | .ref _ => false
  | .exc _ _ _ => false
  | _ => true
def seqsEL : List D → Bool
  | [] => true
  | x :: xs => seqsE x && seqsEL xs
end
theorem pyEL_len : ∀ xs : List D, (pyEL xs).length = xs.length
  | [] => rfl
  | x :: xs => by rw [pyEL, List.length_cons, List.length_cons, pyEL_len xs]
section
variable {X : Cx} {pins : List (Addr × Obj)} {σ : L2.St} {H F : Hp} {A0 : List Addr} {s : Shared}
theorem scal_reads {h : Heap} {K : PySem.W.Frag} {x : D} {v : V} {u : Value} (p : scal x = true) (d : Dat K F A0 x v) (r : RelV v u) : Reads h u (pyE x) [] := by
  cases d with
  | non => cases r; exact .none
  | bl b => cases r; exact .bool b
  | int i => obtain ⟨t, rfl⟩ := r; exact .int i t
  | str z _ => obtain ⟨t, rfl⟩ := r; exact .str z t
  | tup _ _ => cases p
  | lst _ _ => cases p
  | frl _ _ => cases p
  | dk _ _ => cases p
  | dt _ _ => cases p
  | ref _ => cases p
  | exc _ _ => cases p
theorem keys_read {h : Heap} {P : Program} {w : World} : ∀ {es : List DictEntry} {vs : List (Key × Value)}, Pairs (mixKind P w) es vs → ReadsAll h (es.map (·.key)) ((vs.map (·.1)).map keyP) []
  | _, _, .nil => .nil
  | _, _, .cons (e := e) (kv := kv) h1 h2 t => by
    have r : Reads h e.key (keyP kv.1) [] := by
      rcases keyIs_shape (show keyIs kv.1 e.key = true from h1) with ⟨i, t, e1, e2⟩ | ⟨z, t, e1, e2⟩
      · rw [e1, e2]; exact .int i t
      · rw [e1, e2]; exact .str z t
    exact .cons (as := []) (bs := []) r (keys_read t)
theorem vals_read {h : Heap} {K : PySem.W.Frag} {P : Program} {w : World} : ∀ {xs : List D} {kvs : List (Key × V)} {es : List DictEntry} {vs : List (Key × Value)}, xs.all scal = true → DatL K F A0 xs (kvs.map (·.2)) → KV kvs vs → Pairs (mixKind P w) es vs → ReadsAll h (es.map (·.val)) (pyEL xs) []
  | [], [], _, _, _, _, r, p => by
    cases r
    cases p
    exact .nil
  | [], _ :: _, _, _, _, d, _, _ => by cases d
  | _ :: _, [], _, _, _, d, _, _ => by cases d
  | x :: xs, kv :: kvs, _, _, q, d, r, p => by
    rw [List.all_cons, Bool.and_eq_true] at q
    cases d with
    | cons d1 d2 =>
      cases r with
      | cons r1 r2 =>
        cases p with
        | cons p1 p2 p3 =>
          have h1 : Reads h _ (pyE x) [] := scal_reads (h := h) q.1 d1 r1.2
          rw [← p2] at h1
          rw [pyEL]
          exact .cons (as := []) (bs := []) h1 (vals_read q.2 d2 r2 p3)
mutual
theorem rds_of (I : Inv X pins σ H s) (hF : Same F H) : ∀ (x : D) (v : V) (u : Value), seqsE x = true → Dat X.K F A0 x v → RelV v u → RdS s.heap u (pyE x)
  | .non, _, _, _, h, r => by cases h; cases r; exact .leaf .none (by simp only [pyE, PyData.hasDict])
  | .bl b, _, _, _, h, r => by cases h; cases r; exact .leaf (.bool b) (by simp only [pyE, PyData.hasDict])
  | .int i, _, _, _, h, r => by cases h; obtain ⟨t, rfl⟩ := r; exact .leaf (.int i t) (by simp only [pyE, PyData.hasDict])
  | .str z, _, _, _, h, r => by
    cases h with
    | str _ hz => obtain ⟨t, rfl⟩ := r; exact .leaf (.str z t) (by simp only [pyE, PyData.hasDict])
  | .tup xs, _, _, p, h, r => by
    cases h with
    | tup hs hd =>
      cases r
      obtain ⟨its, rv, o, h1, h2, n, h3⟩ := isTup_of I (sqT_same hF hs.q)
      exact .tuple h1 h2 h3 (rdsL_of I hF xs _ _ p hd rv)
  | .lst xs, _, _, p, h, r => by
    cases h with
    | lst hs hd =>
      cases r
      obtain ⟨its, rv, o, h1, h2, n, h3⟩ := isList_of I (.of (hF _ _ hs))
      exact .list h1 h2 h3 (rdsL_of I hF xs _ _ p hd rv)
  | .frl xs, _, _, p, h, r => by
    cases h with
    | frl hs hd =>
      cases r
      obtain ⟨its, rv, o, h1, h2, n, h3⟩ := isList_of I (hs.same hF).seq
      exact .list h1 h2 h3 (rdsL_of I hF xs _ _ p hd rv)
  | .dk ks xs, _, _, p, h, r => by
    cases h with
    | @dk a kvs _ hs hd =>
      cases r
      obtain ⟨hz, hm, vs, rel, o, es, ep, ho, hex, hdat, hko, hpr, hnd⟩ := dk_of I.hok (hF _ _ hs)
      have hk : kvs.map (·.1) = vs.map (·.1) := KV.keys rel
      have hl : ((kvs.map (·.1)).map keyP).length = (pyEL xs).length := by
        rw [pyEL_len, ← hd.length, List.length_map, List.length_map, List.length_map]
      have r1 : ReadsAll s.heap (es.toList.map (·.key)) ((((kvs.map (·.1)).map keyP).zip (pyEL xs)).map (·.1)) [] := by
        rw [List.map_fst_zip (Nat.le_of_eq hl), hk]; exact keys_read hpr
      have r2 : ReadsAll s.heap (es.toList.map (·.val)) ((((kvs.map (·.1)).map keyP).zip (pyEL xs)).map (·.2)) [] := by
        rw [List.map_snd_zip (Nat.le_of_eq hl.symm)]; exact vals_read p hd rel hpr
      exact .dict (.dict (as := []) (bs := []) ho hex.1 hdat r1 r2) hm
  | .dt _ _, _, _, p, _, _ => by cases p
  | .ref _, _, _, p, _, _ => by cases p
  | .exc _ _ _, _, _, p, _, _ => by cases p
theorem rdsL_of (I : Inv X pins σ H s) (hF : Same F H) : ∀ (xs : List D) (vs : List V) (us : List Value), seqsEL xs = true → DatL X.K F A0 xs vs → Vals vs us → RdSL s.heap us (pyEL xs)
  | [], _, _, _, h, r => by cases h; cases r; exact .nil
  | x :: xs, _, _, p, h, r => by
    cases h with
    | cons h1 h2 =>
      cases r with
      | cons r1 r2 =>
        have p' : (seqsE x && seqsEL xs) = true := p
        obtain ⟨p1, p2⟩ := Bool.and_eq_true_iff.mp p'
        exact .cons (rds_of I hF x _ _ p1 h1 r1) (rdsL_of I hF xs _ _ p2 h2 r2)
end
end
def rpOkE (x : D) : Bool := seqsE x && (pyE x).showable && decide ((pyE x).shown.length ≤ sizeLine) && decide ((pyE x).depth ≤ 50)
def rpE (x : D) : Str := (pyE x).shown
def reprEF (s : Sto) : List D → Option D
  | [x] => if rpOkE x = true then some (.str (rpE x)) else none
  | _ => none
def strEF (s : Sto) : List D → Option D
  | [.str z] => some (.str z)
  | [.int i] => if i.natAbs.log2 < 1920 then some (.str (toString i)) else none
  | [.bl b] => some (.str (if b then "True" else "False"))
  | [x] => if rpOkE x = true then some (.str (rpE x)) else none
  | _ => none
theorem repr_goE {P : Program} {w : World} {A : Around} {E : Value → Shared → Prop} {s : Shared} {Q : Value → Shared → Prop} {u : Value} {d : PyData} (r : RdS s.heap u d) (hs : d.showable = true) (hz : d.shown.length ≤ sizeLine) (hg : A.guards = some []) (hu : A.units + (d.depth + 1) < cLine)
    (hQ : ∀ h' t tk, (∀ b o, s.heap.get? b = some o → h'.get? b = some o) → Q (.str d.shown t) { s with heap := h', toks := tk }) : wpAny (model P w) A (call (.builtin "repr") [u]) Q E s := by
  have ref : ∀ a, u = .ref a → wpAny (model P w) A (call (.builtin "repr") [u]) Q E s := fun a e => by
    subst e
    obtain ⟨T, idr, S⟩ := RdS.by (prog := P) (w := w) r hs hz
    exact call_repr_slot (by omega) (S.typeIs s fun _ _ e => e) S.slotRepr (S.call A.in1 E s _ hg (by show A.units + 1 + d.depth < cLine; omega) (fun _ _ e => e) fun h' u tk hk => ⟨_, _, rfl, hQ h' u tk hk⟩)
  cases r with
  | leaf r hn => exact repr_go r hs hn hz hg hu hQ
  | dict r hm => exact ref _ rfl
  | list h1 h2 h3 h4 => exact ref _ rfl
  | tuple h1 h2 h3 h4 => exact ref _ rfl
theorem callx_reprE {X : Cx} (hu : X.A.units + 64 < cLine) (hg : X.A.guards = some []) : CallX X (.builtin "repr") reprEF := by
  refine ⟨fun xs H Q => ∃ x F A0 d, xs = [x] ∧ Same F H ∧ Dat X.K F A0 d x ∧ rpOkE d = true ∧ Q (.str (rpE d)) H, ?_, ?_⟩
  · intro pins s σ H xs us Q I r h
    obtain ⟨x, F, A0, d, rfl, hF, dx, ok, q⟩ := h
    obtain ⟨u, rfl, ru⟩ := vals1 r
    unfold rpOkE at ok
    simp only [Bool.and_eq_true, decide_eq_true_eq] at ok
    obtain ⟨⟨⟨o1, o2⟩, o3⟩, o4⟩ := ok
    exact repr_goE (rds_of I hF d x u o1 dx ru) o2 o3 hg (by omega) fun h' t tk hk => ⟨.str (rpE d), H, I.kept hk, ⟨t, rfl⟩, q⟩
  · intro xs s vs H A B Q z R dv e q
    match xs, e with
    | [x], e =>
      obtain ⟨v, rfl, dx⟩ := one_of dv
      have e' : (if rpOkE x = true then some (D.str (rpE x)) else none) = some z := e
      split at e'
      · rename_i ok
        cases e'
        refine ⟨v, Fz B H A s, A, x, rfl, fz_same, dx, ok, q.here R (.str _ ?_)⟩
        unfold rpOkE at ok
        simp only [Bool.and_eq_true, decide_eq_true_eq] at ok
        exact ok.1.2
      · cases e'
theorem str_goE {P : Program} {w : World} {A : Around} {E : Value → Shared → Prop} {s : Shared} {Q : Value → Shared → Prop} {a : Addr} {d : PyData} (r : RdS s.heap (.ref a) d) (hs : d.showable = true) (hz : d.shown.length ≤ sizeLine) (hg : A.guards = some []) (hu : A.units + (d.depth + 3) < cLine)
    (hQ : ∀ h' t tk, (∀ b o, s.heap.get? b = some o → h'.get? b = some o) → Q (.str d.shown t) { s with heap := h', toks := tk }) : wpAny (model P w) A (call (.type "str") [.ref a]) Q E s :=
  callType_new F.called_str (by decide) (F.typeCall_str_1 _) (F.newCall_str_1 _) (fun obj => F.args_object_init_2 obj _) F.entry_str_new
    (meets_str_new (S := fun A' R s' => A'.guards = some [] ∧ A'.units + (d.depth + 2) < cLine ∧ (∀ b o, s.heap.get? b = some o → s'.heap.get? b = some o) ∧
        ∀ h' u tk, (∀ b o, s'.heap.get? b = some o → h'.get? b = some o) → R (.ok (.ret (.str d.shown u))) { s' with heap := h', toks := tk })
      fun prog' w' A' R s' h => by
        obtain ⟨T, idr, S⟩ := RdS.by (prog := prog') (w := w') r hs hz
        exact wpAny_strOf_slot rfl (by show A'.units + 1 + _ < cLine; have := h.2.1; omega) (S.typeIs s' h.2.2.1) S.slotStr S.slotRepr (S.call A'.in1.in1 _ s' _ h.1 (by show A'.units + 1 + 1 + d.depth < cLine; have := h.2.1; omega) h.2.2.1 fun h' u tk hk => ⟨_, _, rfl, h.2.2.2 h' u tk hk⟩))
    ⟨hg, by show A.units + 1 + (d.depth + 2) < cLine; omega, fun _ _ e => e, fun h' u tk hk => ⟨typeIs_str _ _ _, hQ h' u tk hk⟩⟩
theorem call_strE {X : Cx} (hu : X.A.units + 64 < cLine) (hg : X.A.guards = some []) : CallR X (.type "str") (fun xs H Q => ∃ x F A0 d, xs = [x] ∧ Same F H ∧ Dat X.K F A0 d x ∧ rpOkE d = true ∧ ((∃ a, x = .ref a) ∨ x = .non) ∧ Q (.str (rpE d)) H) := by
  intro pins s σ H xs us Q I r h
  obtain ⟨x, F, A0, d, rfl, hF, dx, ok, hx, q⟩ := h
  obtain ⟨u, rfl, ru⟩ := vals1 r
  unfold rpOkE at ok
  simp only [Bool.and_eq_true, decide_eq_true_eq] at ok
  obtain ⟨⟨⟨o1, o2⟩, o3⟩, o4⟩ := ok
  rcases hx with ⟨a, rfl⟩ | rfl
  · obtain rfl : u = Value.ref a := ru
    exact str_goE (rds_of I hF d _ _ o1 dx rfl) o2 o3 hg (by omega) fun h' t tk hk => ⟨.str (rpE d), H, I.kept hk, ⟨t, rfl⟩, q⟩
  · obtain rfl : u = Value.none := ru
    cases dx
    exact PySem.P.str_of_none ⟨.str (rpE .non), H, I.tok _, ⟨_, rfl⟩, q⟩
theorem callx_strE {X : Cx} (hu : X.A.units + 64 < cLine) (hg : X.A.guards = some []) : CallX X (.type "str") strEF := by
  refine ⟨_, (((call_str_int.or call_str_bool).or SkE.call_str_str).or (call_strE hu hg)), fun xs s vs H A B Q z R dv e q => ?_⟩
  match xs, e with
  | [], e => cases e
  | a :: b :: c, e => cases a <;> cases e
  | [x], e =>
    obtain ⟨v, rfl, dx⟩ := one_of dv
    have fits : rpOkE x = true → (rpE x).length ≤ sizeLine := fun ok => by
      unfold rpOkE at ok
      simp only [Bool.and_eq_true, decide_eq_true_eq] at ok
      exact ok.1.2
    have gen : (if rpOkE x = true then some (D.str (rpE x)) else none) = some z → ((∃ a, v = .ref a) ∨ v = .non) → (∃ x' F A0 d, [v] = [x'] ∧ Same F H ∧ Dat X.K F A0 d x' ∧ rpOkE d = true ∧ ((∃ a, x' = .ref a) ∨ x' = .non) ∧ Q (.str (rpE d)) H) := fun e' hv => by
      split at e'
      · rename_i ok
        cases e'
        exact ⟨v, Fz B H A s, A, x, rfl, fz_same, dx, ok, hv, q.here R (.str _ (fits ok))⟩
      · cases e'
    cases dx with
    | str y hz =>
      have e' : some (D.str y) = some z := e
      cases e'
      exact .inl (.inr ⟨_, rfl, q.here R (.str _ hz)⟩)
    | int i =>
      have e' : (if i.natAbs.log2 < 1920 then some (D.str (toString i)) else none) = some z := e
      split at e'
      · rename_i hz
        cases e'
        exact .inl (.inl (.inl ⟨_, rfl, hz, q.here R (.str _ (str_int_fits hz))⟩))
      · cases e'
    | bl b =>
      have e' : some (D.str (if b then "True" else "False")) = some z := e
      cases e'
      exact .inl (.inl (.inr ⟨_, rfl, q.here R (.str _ (by cases b <;> decide))⟩))
    | non => exact .inr (gen e (.inr rfl))
    | tup h1 h2 => exact .inr (gen e (.inl ⟨_, rfl⟩))
    | lst h1 h2 => exact .inr (gen e (.inl ⟨_, rfl⟩))
    | frl h1 h2 => exact .inr (gen e (.inl ⟨_, rfl⟩))
    | dk h1 h2 => exact .inr (gen e (.inl ⟨_, rfl⟩))
    | dt h1 h2 => exact .inr (gen e (.inl ⟨_, rfl⟩))
    | ref h1 => exact .inr (gen e (.inl ⟨_, rfl⟩))
    | exc h1 h2 => exact .inr (gen e (.inl ⟨_, rfl⟩))
end Dl
namespace Dl
open PySem PySem.Spec PyProof.Rows L2
def oAddN : O2 := fun x y s Q => ∃ xs ys, seqM s x = some xs ∧ seqM s y = some ys ∧ xs.length + ys.length ≤ sizeLine ∧ Q (.ref s.length) (s ++ [some (.lst (xs ++ ys))])
end Dl
namespace Dl
open PySem PySem.Spec PyProof.Rows L2
def Kd (s s' : Shared) : Prop := ∃ (h' : Heap) (tk : Nat), s' = { s with heap := h', toks := tk } ∧ ∀ b o, s.heap.get? b = some o → h'.get? b = some o
theorem Kd.refl {s : Shared} : Kd s s := ⟨s.heap, s.toks, rfl, fun _ _ e => e⟩
theorem Kd.trans {s s' s'' : Shared} (a : Kd s s') (b : Kd s' s'') : Kd s s'' := by
  obtain ⟨h1, t1, rfl, k1⟩ := a
  obtain ⟨h2, t2, rfl, k2⟩ := b
  exact ⟨h2, t2, rfl, fun b o e => k2 b o (k1 b o e)⟩
theorem Kd.tok {s : Shared} {t : Nat} : Kd s { s with toks := t } := ⟨s.heap, t, rfl, fun _ _ e => e⟩
structure KSt (X : Cx) (env : PySem.Env) (x : Str) (u : Value) (d : D) (s : Shared) : Prop where
  mod : Mod X.K X.mg X.base
  kind : env.scope.kind = .function
  loc : env.scope.names.lookup x = some .local
  glob : env.globals = mainGlobals
  blt : env.builtins = builtinsNs
  ns : ∃ m, s.heap.Ns env.locals m ∧ m x = some u
  bs : ∀ b o, X.base.get? b = some o → s.heap.get? b = some o
  at_ : ∃ (F H : Hp) (A0 : List Addr) (v : V), HOk X.prog X.w H s.heap ∧ Same F H ∧ Dat X.K F A0 d v ∧ RelV v u
theorem KSt.kd {X : Cx} {env : PySem.Env} {x : Str} {u : Value} {d : D} {s s' : Shared} (k : KSt X env x u d s) (e : Kd s s') : KSt X env x u d s' := by
  obtain ⟨h', tk, rfl, kp⟩ := e
  obtain ⟨m, h1, h2⟩ := k.ns
  obtain ⟨F, H, A0, v, a1, a2, a3, a4⟩ := k.at_
  exact ⟨k.mod, k.kind, k.loc, k.glob, k.blt, ⟨m, h1.keeps kp, h2⟩, fun b o e => kp b o (k.bs b o e), F, H, A0, v, a1.kept kp, a2, a3, a4⟩
def ScV : D → Value → Prop
  | .int i, r => ∃ t, r = .int i t
  | .str z, r => ∃ t, r = .str z t
  | _, _ => False
theorem ScV.reads {z : D} {r : Value} {h : Heap} (q : ScV z r) : Reads h r (pyD z) [] := by
  cases z with
  | int i => obtain ⟨t, rfl⟩ := q; exact .int i t
  | str y => obtain ⟨t, rfl⟩ := q; exact .str y t
  | _ => cases q
def scO : D → Option D
  | .int i => some (.int i)
  | .str z => some (.str z)
  | _ => none
theorem scO_v {K : PySem.W.Frag} {F : Hp} {A0 : List Addr} {d z : D} {v : V} {r : Value} (h : scO d = some z) (dv : Dat K F A0 d v) (rv : RelV v r) : ScV z r := by
  cases d with
  | int i => cases h; cases dv; exact rv
  | str y => cases h; cases dv; exact rv
  | _ => cases h
structure PKe (X : Cx) (sc : Scope) (x : Str) (e : Expr) (t : D → Option D) : Prop where
  run : ∀ (A : Around) (env : PySem.Env) (s : Shared) (u : Value) (d z : D) (Q : Value → Shared → Prop) (E : Value → Shared → Prop), env.scope = sc → KSt X env x u d s → t d = some z → (∀ r s', Kd s s' → ScV z r → Q r s') → wpAny (model X.prog X.w) A (eval e env) Q E s
def kItem (i : Nat) : D → Option D
  | .tup (d0 :: ds) => if (keyD1 d0).isSome = true then ((d0 :: ds)[i]?).bind scO else none
  | _ => none
theorem pk_item {X : Cx} {sc : Scope} {x : Str} {i : Nat} {k : Nat} {p p2 pos : Pos} (hi : i < 1000) (hd : (x == ("__debug__" : Str)) = false := by decide) : PKe X sc x (.Subscript (.Name x p) (.Constant (.int (i : Nat)) k p2) pos) (kItem i) := by
  refine ⟨fun A env s u d z Q E _ K ht hQ => ?_⟩
  obtain ⟨m, h1, h2⟩ := K.ns
  obtain ⟨F, H, A0, v, a1, a2, a3, a4⟩ := K.at_
  cases d with
  | tup ds =>
    cases ds with
    | nil => cases ht
    | cons d0 ds =>
    have ht0 : (if (keyD1 d0).isSome = true then ((d0 :: ds)[i]?).bind scO else none) = some z := ht
    by_cases hk : (keyD1 d0).isSome = true
    case neg => rw [if_neg hk] at ht0; cases ht0
    rw [if_pos hk] at ht0
    obtain ⟨y, hy, hz⟩ := Option.bind_eq_some_iff.mp ht0
    cases a3 with
    | tup hs hds =>
      obtain rfl := a4
      obtain ⟨_, its, rv, ot, hot, hct, nt, hdt⟩ := (show ObjOk X.prog X.w H s.heap _ (.tup _) from a1 _ _ (a2 _ _ (tp_hd hs hds hk)))
      obtain ⟨v', hv', dv'⟩ := hds.get hy
      obtain ⟨w', hw', rw'⟩ := rv.get hv'
      have hl : i < its.length := (List.getElem?_eq_some_iff.mp hw').1
      refine Subscript_ (wpAny_Name (wpAny_loadName_local K.kind K.loc h1 h2 (wpAny_Constant_int ?_)) hd)
      refine item_tupleL (t := _) (l := its) (x := w') (j := i) ⟨ot, hot, hct, nt, hdt⟩ (by omega) (by omega) (seqIndex_of (by omega) (by omega)) hw' ?_
      exact hQ _ _ Kd.tok (scO_v hz dv' rw')
  | _ => cases ht
inductive ScVs : List D → List Value → Prop
  | nil : ScVs [] []
  | cons {z : D} {r : Value} {zs : List D} {rs : List Value} : ScV z r → ScVs zs rs → ScVs (z :: zs) (r :: rs)
structure PKs (X : Cx) (sc : Scope) (x : Str) (es : List Expr) (t : D → Option (List D)) : Prop where
  run : ∀ (A : Around) (env : PySem.Env) (s : Shared) (u : Value) (d : D) (zs : List D) (pos : Pos) (Q : List Value → Shared → Prop) (E : Value → Shared → Prop), env.scope = sc → KSt X env x u d s → t d = some zs → (∀ rs s', Kd s s' → ScVs zs rs → Q rs s') → wpAny (model X.prog X.w) A (spliced (backTo pos (starEach es env))) Q E s
def kNil : D → Option (List D) := fun _ => some []
def kCons (t : D → Option D) (r : D → Option (List D)) : D → Option (List D) := fun d => (t d).bind fun z => (r d).map (z :: ·)
theorem pks_nil {X : Cx} {sc : Scope} {x : Str} : PKs X sc x [] kNil := ⟨fun A env s u d zs pos Q E _ _ ht hQ => by cases ht; exact Calls.spliced_nil (hQ _ _ Kd.refl .nil)⟩
theorem pks_cons {X : Cx} {sc : Scope} {x : Str} {e : Expr} {es : List Expr} {t : D → Option D} {r : D → Option (List D)} (he : PKe X sc x e t) (hr : PKs X sc x es r) (hs : ∀ env, starEach (e :: es) env = (false, eval e env) :: starEach es env := by intro _; rfl) : PKs X sc x (e :: es) (kCons t r) := by
  refine ⟨fun A env s u d zs pos Q E h0 K ht hQ => ?_⟩
  obtain ⟨z, hz, ht2⟩ := Option.bind_eq_some_iff.mp ht
  obtain ⟨zr, hzr, rfl⟩ := Option.map_eq_some_iff.mp ht2
  rw [hs]
  show wpAny _ _ (spliced ((false, eval e env) :: backTo pos (starEach es env))) _ _ s
  refine Calls.spliced_cons (he.run A env s u d z _ E h0 K hz fun w s1 k1 q1 => ?_)
  exact hr.run A env s1 u d zr pos _ E h0 (K.kd k1) hzr fun ws s2 k2 q2 => hQ _ _ (k1.trans k2) (.cons q1 q2)
theorem reads_all {h : Heap} : ∀ {zs : List D} {rs : List Value}, ScVs zs rs → ReadsAll h rs (pyL zs) []
  | _, _, .nil => .nil
  | _, _, .cons q t => .cons (as := []) (bs := []) q.reads (reads_all t)
theorem forall2_len : ∀ {zs : List D} {rs : List Value}, ScVs zs rs → rs.length = zs.length
  | _, _, .nil => rfl
  | _, _, .cons _ t => by rw [List.length_cons, List.length_cons, forall2_len t]
structure PKb (X : Cx) (sc : Scope) (x : Str) (e : Expr) (t : D → Option D) : Prop where
  run : ∀ (A : Around) (env : PySem.Env) (s : Shared) (u : Value) (d z : D) (Q : Value → Shared → Prop) (E : Value → Shared → Prop), env.scope = sc → KSt X env x u d s → t d = some z → (∀ r s', PySem.W.KeyPure (pyD z) s r s' → Q r s') → wpAny (model X.prog X.w) A (eval e env) Q E s
def kTup (r : D → Option (List D)) : D → Option D := fun d => (r d).bind fun zs => if zs.length ≤ 1000 then some (.tup zs) else none
theorem pkb_tup {X : Cx} {sc : Scope} {x : Str} {es : List Expr} {r : D → Option (List D)} {x1} {pos : Pos} (h : PKs X sc x es r) : PKb X sc x (.Tuple es x1 pos) (kTup r) := by
  refine ⟨fun A env s u d z Q E h0 K ht hQ => ?_⟩
  obtain ⟨zs, hz, ht2⟩ := Option.bind_eq_some_iff.mp ht
  split at ht2
  · rename_i hl
    cases ht2
    refine wpAny_Tuple_spliced (h.run A env s u d zs pos _ E h0 K hz fun rs s1 k1 q1 => ⟨by rw [forall2_len q1]; exact Nat.le_trans hl (by rw [sizeLine_eq]; decide), ?_⟩)
    obtain ⟨h', tk, rfl, kp⟩ := k1
    refine hQ _ _ ⟨_, tk, rfl, fun b o e => Heap.get?_push_of_some _ (kp b o e), ?_⟩
    exact .tuple (n := 0) (Heap.get?_push_size _ rfl) rfl rfl (reads_all q1)
  · cases ht2
def keyD (f : D → Option D) (d : D) : PyData := pyD ((f d).getD .non)
structure SortKOk (f : D → Option D) (ds : List D) : Prop where
  fk : ∀ d ∈ ds, ∃ z, f d = some z
  al : PySem.W.AllAlike (ds.map (keyD f))
  so : PySem.W.Sortable (ds.map (keyD f))
  ln : ds.length ≤ sizeLine
  dp : ∀ d ∈ ds, (keyD f d).depth ≤ 40
noncomputable def srtK (f : D → Option D) (ds : List D) : List D := ds.mergeSort (PySem.W.dataLe false (keyD f))
structure LamK (scope : Scope) (x : Str) : Prop where
  kind : scope.kind = .function
  co : scope.isCoroutine = false
  gen : scope.isGenerator = false
  own : ∀ y ∈ scope.names, y.2 ≠ .cell ∧ y.2 ≠ .free
  loc : scope.names.lookup x = some .local
def lamKB (scope : Scope) (x : Str) : Bool :=
  decide (scope.kind = .function) && !scope.isCoroutine && !scope.isGenerator && (scope.names.all fun y => !decide (y.2 = .cell) && !decide (y.2 = .free)) && decide (scope.names.lookup x = some .local)
theorem lamK_by {scope : Scope} {x : Str} (h : lamKB scope x = true) : LamK scope x := by
  unfold lamKB at h
  simp only [Bool.and_eq_true, Bool.not_eq_true', decide_eq_true_eq, decide_eq_false_iff_not, List.all_eq_true] at h
  obtain ⟨⟨⟨⟨h1, h2⟩, h3⟩, h4⟩, h5⟩ := h
  exact ⟨h1, h2, h3, h4, h5⟩
section
variable {X : Cx} {pins : List (Addr × Obj)} {σ : L2.St} {H : Hp} {s : Shared}
theorem key_turn {A : Around} {scope : Scope} {x : Str} {params : Arguments} {body : Expr} {f : D → Option D} {fa c' : Addr} {pm ctv : Value} {F : Hp} {A0 : List Addr} {q : Str} {cl : List (Str × Addr)} (I : Inv X pins σ H s) (hF : Same F H) (hd : A.depth < recursionLimit) (L : LamK scope x)
    (hbind : ∀ (q : Str) (cl : List (Str × Addr)) (pm cv ctv u : Value), bindArgs (PySem.W.kla_fn "<lambda>" q params body scope cl pm cv ctv) ⟨[u], []⟩ = pure [(x, u)])
    (hfo : s.heap.get? fa = some (PySem.W.kla_obj "<lambda>" q params body scope cl pm c' ctv)) (hco : H c' = some (LamX.CodeO c' q)) (hb : PKb X scope x body f) {d : D} {v : V} {u : Value} (dv : Dat X.K F A0 d v) (rv : RelV v u) {z : D} (hz : f d = some z) :
    wpAny (model X.prog X.w) A (call (.ref fa) [u]) (PySem.W.KeyPure (pyD z) s) (fun _ _ => False) s := by
  obtain ⟨⟨oc, vs, t, hoc, hdc, hvc⟩, _, _⟩ := I.hok c' _ hco
  have rc : codeAny (model X.prog X.w) A (.call (.ref fa) ⟨[u], []⟩) (fun r s' => ∃ w, r = .ok (.ret w) ∧ PySem.W.KeyPure (pyD z) s w s') s := by
    refine PySem.W.kla_callFunE hd hfo rfl L.co L.gen rfl ⟨c', oc, vs, t, rfl, hoc, hdc, hvc⟩ ?_
    rw [hbind]
    refine wpAny_pure (wpAny_newFunctionEnv (fun y hy => (L.own y hy).1) (fun y hy => by rw [List.mem_singleton.mp hy]; exact L.loc) (fun h₁ hns hsb => ⟨I.nolimit.fresh _ hsb, ?_⟩) L.kind)
    show codeAny _ _ (.expr body _) _ _
    have kp : ∀ b o, s.heap.get? b = some o → h₁.get? b = some o := fun b o e => hsb.extBut b o (Nat.ne_of_lt (Heap.lt_size e)) (Heap.get?_push_of_some _ e)
    refine PySem.W.kla_codeExpr (hb.run _ _ _ u d z _ _ rfl ⟨I.mod, L.kind, L.loc, rfl, rfl, ⟨_, hns, ?_⟩, fun b o e => kp b o (I.bk b o e), F, H, A0, v, I.hok.kept kp, hF, dv, rv⟩ hz fun r s' hk => ⟨r, rfl, ?_⟩)
    · show List.lookup x [(x, u)] = some u
      simp [List.lookup]
    · obtain ⟨h2, tk, rfl, k2, rd⟩ := hk
      exact ⟨h2, tk, rfl, fun b o e => k2 b o (kp b o e), rd⟩
  refine wpAny_call (codeAny_mono rc fun r s' hq => ?_)
  obtain ⟨w, rfl, hk⟩ := hq
  exact hk
end
section
variable {X : DX} {e body : Expr} {t : AD} {f : D → Option D} {x : Str} {params : Arguments} {scope : Scope} {p lpos kpos pos : Pos} {c P : Addr}
def dSortK (t : AD) (f : D → Option D) : ED := fun env s Q => t env s fun xs s1 => ∃ x ds, xs = [x] ∧ seqL s1 x = some ds ∧ SortKOk f ds ∧ Q (.lst (srtK f ds)) s1
theorem pd_sortK (hu : X.A.units + 64 < cLine) (hdep : X.A.depth < recursionLimit) (hg : Gl X "sorted") (hm : X.mg "sorted" = none) (ha : PAD X [e] t) (TB : LamX.TabB X.base X.mg c P) (hcode : X.env.code = .ref c)
    (hmT : (P, X.env.qual ++ "<lambda>") ∈ tabsOf X.K) (hu1 : ∀ p ∈ tabsOf X.K, p.1 = P → p.2 = X.env.qual ++ "<lambda>") (hdef : defaultsOf params X.env = ([], [])) (L : LamK scope x)
    (hbind : ∀ (q : Str) (cl : List (Str × Addr)) (pm cv ctv u : Value), bindArgs (PySem.W.kla_fn "<lambda>" q params body scope cl pm cv ctv) ⟨[u], []⟩ = pure [(x, u)]) (hb : PKb X scope x body f)
    (he : backTo pos (starEach [e] X.env) = (false, eval e X.env) :: backTo pos (starEach [] X.env) := by rfl) (hpl : (backTo pos (starEach [e] X.env)).any (·.1) = false := by rfl) :
    PD X (.Call (.Name "sorted" p) [e] [⟨some "key", .Lambda params body scope lpos, kpos⟩] pos) (dSortK t f) := by
  refine ⟨⟨fun pins s σ H Q I h => ?_⟩, fun _ _ _ _ g h => ha.mono _ _ _ _ (fun _ _ ⟨x, ds, a, b, c, q⟩ => ⟨x, ds, a, b, c, g _ _ q⟩) h⟩
  obtain ⟨env, s0, A0, B, w, h⟩ := h
  refine wpAny_Call_Name_kw (ld_blt I hg hm (show bootBuiltins "sorted" = some (.builtin "sorted") by decide +kernel) ?_ (by decide) (by decide))
  refine PyProof.Rows.callWith_kw (thn (ha.pa.run pos pins s σ H (fun vs H1 => ∃ (A1 : List Addr) (s1 : Sto) (y : D) (v : V) (ds : List D), vs = [v] ∧ RepS X.K B H1 A1 s1 ∧ Ext B H A0 s0 H1 A1 s1 ∧ Dat X.K (Fz B H1 A1 s1) A1 y v ∧ seqL s1 y = some ds ∧ SortKOk f ds ∧ PostE X.K B H A0 s0 Q (.lst (srtK f ds)) s1) I
    (rdA_go ha.mono w h fun xs s1 vs H1 A1 q w1 e1 dv => by
      obtain ⟨y, ds, rfl, hs, ok, q⟩ := q
      obtain ⟨v, rfl, d⟩ := one_of dv
      exact ⟨A1, s1, y, v, ds, rfl, w1.rs, e1, d, hs, ok, q⟩)) fun us s1 ⟨vs, H1, I1, r1, A1, st1, y, v, ds, evs, R1, e1, dy, hs, ok, q⟩ => ?_) he hpl rfl rfl
  subst evs
  show wpAny _ _ (evalAll [do let v ← eval (.Lambda params body scope lpos) X.env; standAt pos; pure v]) _ _ s1
  refine wpAny_evalAll_cons (wpAny_bind (LamX.lam_make2 (T := tabsOf X.K) I1 TB hcode hmT hu1 R1.tb hdef (fun z hz ez => absurd ez (L.own z hz).2) fun fa c' pm ctv H2 s2 I2 eN T2 hfo hfn hff hco => wpAny_bind (wpAny_standAt (wpAny_pure (wpAny_evalAll_nil ?_)))))
  obtain ⟨R2, e2⟩ := R1.growN eN T2
  have dy2 := dy.ext e2
  obtain ⟨a, ws, rfl, h1, h2⟩ := of_seqL R2 dy2 hs
  obtain rfl := Vals.ref1 r1
  obtain ⟨its, rv, il⟩ := isList_of I2 h1
  show wpAny _ _ (call (.builtin "sorted") [.ref a] [(Str.ofString "key", .ref fa)]) _ _ s2
  refine PySem.W.sorted_key_data (R := fun u d => ∃ v, RelV v u ∧ Dat X.K (Fz B H2 A1 st1) A1 d v) (k := keyD f) (b := false) il (each_of h2 rv) ok.al ok.so ok.ln (fun d hd => by have := ok.dp d hd; omega) (PyProof.Rows.ksk_s1 _ _) (fun _ => PyProof.Rows.ksk_l1 _ _) (fun _ => PyProof.Rows.ksk_t1 _ _) (fun u d ⟨v', r', d'⟩ hd h tk kp => ?_) fun out cc h' tk kp hfr hout hol eo => ?_
  · obtain ⟨z, hz⟩ := ok.fk d hd
    have ek : keyD f d = pyD z := by unfold keyD; rw [hz]; rfl
    rw [ek]
    exact key_turn (A := X.A.in1.in1) (I2.kept kp) fz_same hdep L hbind (kp _ _ hfo) hco hb d' r' hz
  · obtain ⟨ys, y1, y2⟩ := of_each eo
    have hlen : ys.length ≤ sizeLine := by rw [y1.length, hol]; exact ok.ln
    have hp : H2 (s2.heap.objs.size + 1) = none := I2.hok.fresh (Nat.le_succ _)
    obtain ⟨r3, e3, f3⟩ := R2.laid (o := .lst ys) hp
    exact ⟨.ref (s2.heap.objs.size + 1), _, I2.laid (a := s2.heap.objs.size + 1) (o := .lst ys) (t' := tk) (fun b o e => kp b o e) (Nat.le_succ _) ⟨hlen, out, cc, y1, hout⟩, rfl, q _ _ _ r3 ((e1.trans e2).trans e3) (.lst f3 (y2.ext e3))⟩
end
end Dl
namespace Dl
open PySem PySem.Spec PyProof.Rows L2
def LamAt (K : PySem.W.Frag) (mg : Str → Option Value) (base : Heap) (x : Str) (cdv : Value) : Prop :=
  ∃ c P, cdv = .ref c ∧ LamX.TabB base mg c P ∧ (P, x ++ (".<locals>." : Str) ++ ("<lambda>" : Str)) ∈ tabsOf K ∧ ∀ p ∈ tabsOf K, p.1 = P → p.2 = x ++ (".<locals>." : Str) ++ ("<lambda>" : Str)
def tabUq (K : PySem.W.Frag) (P : Addr) (q : Str) : Bool := (tabsOf K).all fun p => !(p.1 == P) || decide (p.2 = q)
def AtL (K : PySem.W.Frag) (mg : Str → Option Value) (base : Heap) (x : Str) (st : Stmt) (ps : List Str) : Prop :=
  ∃ (f : Addr) (fd : FuncData), Fun K x x st f fd ∧ mg x = some (.ref f) ∧ Binds K fd ps [] ∧ LamAt K mg base x fd.code
theorem tab_code {K : PySem.W.Frag} {x : Str} {f c P : Addr} {oc : Value} {od : Option Addr} {fd : FuncData} {sl : Array (Option Value)} (a : PySem.W.nsIn K mainGlobals x = some (some (.ref f))) (l : K.lookup f = some ⟨oc, od, .func fd, sl⟩) (t : PySem.W.tabIn K x = some (c, P)) : fd.code = .ref c := by
  unfold PySem.W.tabIn at t
  rw [a] at t
  simp only [l] at t
  cases hc : fd.code with
  | ref c2 =>
    rw [hc] at t
    simp only at t
    split at t
    · split at t
      · cases t; rfl
      · cases t
    · cases t
  | _ => rw [hc] at t; cases t
theorem lamAt_mk {K : PySem.W.Frag} {mg : Str → Option Value} {base : Heap} {x : Str} {f c P : Addr} {oc : Value} {od : Option Addr} {fd : FuncData} {sl : Array (Option Value)} (TB : TabsB K mg base) (hx : x ∈ lamNames) (a : PySem.W.nsIn K mainGlobals x = some (some (.ref f))) (l : K.lookup f = some ⟨oc, od, .func fd, sl⟩) (t : PySem.W.tabIn K x = some (c, P))
    (u : tabUq K P (x ++ (".<locals>." : Str) ++ ("<lambda>" : Str)) = true) : LamAt K mg base x fd.code := by
  refine ⟨c, P, tab_code a l t, TB (c, P) (List.mem_filterMap.mpr ⟨x, hx, t⟩), List.mem_filterMap.mpr ⟨x, hx, by rw [t]; rfl⟩, fun p hp e => ?_⟩
  have h := List.all_eq_true.mp u p hp
  rw [Bool.or_eq_true, decide_eq_true_iff] at h
  rcases h with h | h
  · rw [e] at h; simp at h
  · exact h
def lamOk (K : PySem.W.Frag) (x : Str) : Bool := match PySem.W.tabIn K x with
  | some (_, P) => tabUq K P (x ++ (".<locals>." : Str) ++ ("<lambda>" : Str))
  | none => false
theorem lamAt_mk2 {K : PySem.W.Frag} {mg : Str → Option Value} {base : Heap} {x : Str} {f : Addr} {oc : Value} {od : Option Addr} {fd : FuncData} {sl : Array (Option Value)} (TB : TabsB K mg base) (hx : x ∈ lamNames) (a : PySem.W.nsIn K mainGlobals x = some (some (.ref f))) (l : K.lookup f = some ⟨oc, od, .func fd, sl⟩) (h : lamOk K x = true) : LamAt K mg base x fd.code := by
  unfold lamOk at h
  cases t : PySem.W.tabIn K x with
  | none => rw [t] at h; cases h
  | some cp =>
    rw [t] at h
    exact lamAt_mk TB hx a l t h
section
variable {X : DX} {e body : Expr} {t : AD} {f : D → Option D} {x x0 : Str} {params : Arguments} {scope : Scope} {p lpos kpos pos : Pos} {k : Nat}
theorem pd_sortKL (TL : LamAt X.K X.mg X.base x0 X.env.code) (hq : X.env.qual = x0 ++ (".<locals>." : Str)) (hr : RoomG k X.A) (hg : Gl X "sorted") (hm : X.mg "sorted" = none) (ha : PAD X [e] t) (hdef : defaultsOf params X.env = ([], [])) (L : LamK scope x)
    (hbind : ∀ (q : Str) (cl : List (Str × Addr)) (pm cv ctv u : Value), bindArgs (PySem.W.kla_fn "<lambda>" q params body scope cl pm cv ctv) ⟨[u], []⟩ = pure [(x, u)]) (hb : PKb X scope x body f)
    (he : backTo pos (starEach [e] X.env) = (false, eval e X.env) :: backTo pos (starEach [] X.env) := by rfl) (hpl : (backTo pos (starEach [e] X.env)).any (·.1) = false := by rfl) :
    PD X (.Call (.Name "sorted" p) [e] [⟨some "key", .Lambda params body scope lpos, kpos⟩] pos) (dSortK t f) := by
  obtain ⟨c, P, e1, e2, e3, e4⟩ := TL
  exact pd_sortK hr.units (by have := hr.r.dp; omega) hg hm ha e2 e1 (by rw [hq]; exact e3) (by rw [hq]; exact e4) hdef L hbind hb he hpl
end
end Dl
namespace Dl
open PySem PySem.Spec PyProof.Rows L2
structure KStC (X : Cx) (env : PySem.Env) (x : Str) (u : Value) (d : D) (y : Str) (es : List (List Key × D)) (s : Shared) : Prop where
  kind : env.scope.kind = .function
  loc : env.scope.names.lookup x = some .local
  free : env.scope.names.lookup y = some .free
  ns : ∃ m, s.heap.Ns env.locals m ∧ m x = some u
  at_ : ∃ (F H : Hp) (A0 : List Addr) (v : V) (c a : Addr) (kvs : List (List Key × V)), HOk X.prog X.w H s.heap ∧ Same F H ∧ Dat X.K F A0 d v ∧ RelV v u ∧ env.cells.lookup y = some c ∧ s.heap.IsCell c (some (.ref a)) ∧ Rd H a (.dT kvs) ∧ RelG X.K F A0 es kvs
def kNegGet (es : List (List Key × D)) : D → Option D
  | .tup (.str r :: .str w :: _ :: _) => match getP es [.inr r, .inr w] with
    | none => some (.int 0)
    | some (.int n) => some (.int (-n))
    | some _ => none
  | _ => none
structure PKbC (X : Cx) (sc : Scope) (x y : Str) (e : Expr) (t : List (List Key × D) → D → Option D) : Prop where
  run : ∀ (A : Around) (env : PySem.Env) (s : Shared) (u : Value) (d z : D) (es : List (List Key × D)) (Q : Value → Shared → Prop) (E : Value → Shared → Prop), A.units + 8 < cLine → env.scope = sc → KStC X env x u d y es s → t es d = some z → (∀ r s', PySem.W.KeyPure (pyD z) s r s' → Q r s') → wpAny (model X.prog X.w) A (eval e env) Q E s
theorem pkc_negget {X : Cx} {sc : Scope} {x y : Str} {p1 p2 p3 p4 p5 p6 p7 p8 p9 : Pos} {k1 k2 : Nat} (hl : (p2.endLine == p8.line) = true) (hdx : (x == ("__debug__" : Str)) = false := by decide) (hdy : (y == ("__debug__" : Str)) = false := by decide) (hcy : (y == ("__classdict__" : Str)) = false := by decide)
    (hb : ∀ env : PySem.Env, attributeBase (.Name y p1) "get" env (eval (.Name y p1) env) = eval (.Name y p1) env := by intro _; rfl)
    (ht : ∀ env : PySem.Env, backTo p8 (starEach [.Subscript (.Name x p3) (.Slice none (some (.Constant (.int 2) k1 p4)) none p5) p6, .Constant (.int 0) k2 p7] env) = [(false, eval (.Subscript (.Name x p3) (.Slice none (some (.Constant (.int 2) k1 p4)) none p5) p6) env), (false, eval (.Constant (.int 0) k2 p7) env)] := by intro _; rfl) :
    PKbC X sc x y (.UnaryOp .USub (.Call (.Attribute (.Name y p1) "get" p2) [.Subscript (.Name x p3) (.Slice none (some (.Constant (.int 2) k1 p4)) none p5) p6, .Constant (.int 0) k2 p7] [] p8) p9) kNegGet := by
  refine ⟨fun A env s u d z es Q E hu _ K ht' hQ => ?_⟩
  obtain ⟨m, h1, h2⟩ := K.ns
  obtain ⟨F, H, A0, v, c, a, kvs, a1, a2, a3, a4, a5, a6, a7, a8⟩ := K.at_
  unfold kNegGet at ht'
  split at ht'
  case h_2 => cases ht'
  rename_i r wr q0 q1
  cases a3 with
  | tup hs hds =>
  obtain rfl := a4
  obtain ⟨hz, its, rv, ot, hot, hct, nt, hdt⟩ := (show ObjOk X.prog X.w H s.heap _ (.tup _) from a1 _ _ (a2 _ _ (tp_hd hs hds rfl)))
  obtain ⟨v0, hv0, d0⟩ := hds.get (i := 0) (d := .str r) rfl
  obtain ⟨v1, hv1, d1⟩ := hds.get (i := 1) (d := .str wr) rfl
  obtain ⟨v2, hv2, _⟩ := hds.get (i := 2) (d := q0) rfl
  cases d0 with
  | str _ _ =>
  cases d1 with
  | str _ _ =>
  obtain ⟨w0, hw0, e0⟩ := rv.get hv0
  obtain ⟨w1, hw1, e1⟩ := rv.get hv1
  obtain ⟨w2, hw2, _⟩ := rv.get hv2
  have hl2 : 2 < its.length := (List.getElem?_eq_some_iff.mp hw2).1
  refine UnaryOp_ ?_
  refine wpAny_Call_method (hb env) (by rw [ht env]; rfl) hl PySem.F.plainAttrs_dict PySem.F.slot_dict_get PySem.F.type_dict_get (wpAny_Name (wpAny_loadName_free K.kind K.free a5 a6 ?_ hcy) hdy)
  obtain ⟨_, hsy, xs, rel, dd⟩ := dt_rd a1 a7
  have tyD : s.TypeIs (.ref a) "dict" := dd.typeIs
  refine ⟨tyD, fun b q => by cases q; obtain ⟨ob, _, _, g1, g2, _⟩ := dd; exact ⟨ob, g1, g2.2.1⟩, ?_⟩
  rw [ht env]
  refine Calls.callWith_builtin rfl (Calls.evalArgs_plain (Calls.spliced_cons ?_))
  refine Subscript_ (wpAny_Name (wpAny_loadName_local K.kind K.loc h1 h2 ?_) hdx)
  refine wpAny_Slice ?_
  rw [evalPart_none]
  refine wpAny_pure ?_
  rw [evalPart_some]
  refine wpAny_Constant_int ?_
  refine wpAny_pure ?_
  have htup : IsTup s.heap _ its.toArray := ⟨ot, hot, hct, nt, hdt⟩
  have c0 : HT.sIx its.toArray.size 0 none = 0 := rfl
  have c2 : HT.sIx its.toArray.size its.toArray.size (some 2) = 2 := by
    rw [List.size_toArray]
    unfold HT.sIx
    simp
    omega
  refine tail_any (T := "tuple") (ops := [.ref s.heap.objs.size, .ref _]) (IsTup.typeIs (htup.push _)) PyProof.Rows.slot_tuple_getitem.lookup ?_ (by with_unfolding_all rfl)
  refine HT.getItem_tuple_cut (htup.push _) (Heap.IsSliceOf.new ..) .none (.int 2 _) (by rw [c2, List.size_toArray]; omega) ?_ (by rw [List.size_toArray, ← rv.length]; exact hz)
  rw [c0, c2]
  refine Calls.spliced_cons (wpAny_Constant_int (Calls.spliced_nil ?_))
  have kp : ∀ b o, s.heap.get? b = some o → ((s.heap.push { cls := .type "slice", data := .fields #[.none, .int 2 s.toks, .none] }).push { cls := .type "tuple", data := .seq ((its.toArray.toList.drop 0).take (2 - 0)).toArray }).get? b = some o := fun b o e => Heap.get?_push_of_some _ (Heap.get?_push_of_some _ e)
  obtain ⟨hz', hsy', xs', rel', dd'⟩ := dt_rd (a1.kept kp) a7
  have hkey : (tupleKind (mixKind X.prog X.w)).is ((s.heap.push { cls := .type "slice", data := .fields #[.none, .int 2 s.toks, .none] }).push { cls := .type "tuple", data := .seq ((its.toArray.toList.drop 0).take (2 - 0)).toArray }) [.inr r, .inr wr] (s.heap.push { cls := .type "slice", data := .fields #[.none, .int 2 s.toks, .none] }).objs.size := by
    refine ⟨_, _, _, Heap.get?_push_size _ rfl, rfl, rfl, ?_⟩
    have hi : (((its.toArray.toList.drop 0).take (2 - 0)).toArray).toList = [w0, w1] := by
      rw [List.toList_toArray]
      show (its.toArray.toList.take 2) = _
      rw [List.toList_toArray]
      refine List.ext_getElem? fun j => ?_
      rw [List.getElem?_take]
      rcases j with _ | _ | j
      · simpa using hw0
      · simpa using hw1
      · rw [if_neg (by omega)]; rfl
    rw [hi]
    exact items_are (ks := [.inr r, .inr wr]) (.cons e0 (.cons e1 .nil))
  obtain ⟨g0, g1⟩ := a8.get [.inr r, .inr wr]
  have fin : ∀ (t0 : Tok) (tk : Nat), wpAny (model X.prog X.w) A (unaryOp .USub (((atKey xs' [.inr r, .inr wr]).map (·.2)).getD (.int 0 t0))) Q E { s with heap := (s.heap.push { cls := .type "slice", data := .fields #[.none, .int 2 s.toks, .none] }).push { cls := .type "tuple", data := .seq ((its.toArray.toList.drop 0).take (2 - 0)).toArray }, toks := tk } := fun t0 tk => by
    have hv : RelV ((valV kvs [.inr r, .inr wr]).getD (.int 0)) (((atKey xs' [.inr r, .inr wr]).map (·.2)).getD (.int 0 t0)) := (rel'.val _).getD ⟨_, rfl⟩
    cases hg : getP es [.inr r, .inr wr] with
    | none =>
      rw [hg] at ht'
      cases ht'
      rw [g0 hg] at hv
      obtain ⟨t, et⟩ := (show ∃ t, _ = Value.int 0 t from hv)
      rw [et]
      exact neg_int (hQ _ _ ⟨_, _, rfl, kp, .int _ _⟩)
    | some dn =>
      rw [hg] at ht'
      obtain ⟨v', ev, dv⟩ := g1 _ hg
      cases dn with
      | int n =>
        cases ht'
        cases dv
        rw [ev] at hv
        obtain ⟨t, et⟩ := (show ∃ t, _ = Value.int n t from hv)
        rw [et]
        exact neg_int (hQ _ _ ⟨_, _, rfl, kp, .int _ _⟩)
      | _ => cases ht'
  refine call_meetsIn PySem.F.slot_dict_get dd'.typeIs PySem.F.entry_dict_get (PySem.F.args_dict_get_3 _ _ _) (meetsH_dict_get_default (tupleKind (mixKind X.prog X.w)) a _ hsy' _) ⟨tupleKind_room_in1 (by omega), [.inr r, .inr wr], xs', hkey, dd', ?_⟩
  exact fin _ _
structure LamKC (scope : Scope) (x y : Str) : Prop where
  kind : scope.kind = .function
  co : scope.isCoroutine = false
  gen : scope.isGenerator = false
  nocell : ∀ z ∈ scope.names, z.2 ≠ .cell
  only : ∀ z ∈ scope.names, z.2 = .free → z.1 = y
  loc : scope.names.lookup x = some .local
  fr : scope.names.lookup y = some .free
  mem : (y, .free) ∈ scope.names
def lamKCB (scope : Scope) (x y : Str) : Bool :=
  decide (scope.kind = .function) && !scope.isCoroutine && !scope.isGenerator && (scope.names.all fun z => !decide (z.2 = .cell)) && (scope.names.all fun z => !decide (z.2 = .free) || decide (z.1 = y)) && decide (scope.names.lookup x = some .local) && decide (scope.names.lookup y = some .free) && (scope.names.any fun z => decide (z.1 = y) && decide (z.2 = .free))
theorem lamKC_by {scope : Scope} {x y : Str} (h : lamKCB scope x y = true) : LamKC scope x y := by
  unfold lamKCB at h
  simp only [Bool.and_eq_true, Bool.or_eq_true, Bool.not_eq_true', decide_eq_true_eq, decide_eq_false_iff_not, List.all_eq_true, List.any_eq_true] at h
  obtain ⟨⟨⟨⟨⟨⟨⟨h1, h2⟩, h3⟩, h4⟩, h5⟩, h6⟩, h7⟩, h8⟩ := h
  refine ⟨h1, h2, h3, h4, fun z hz e => ?_, h6, h7, ?_⟩
  · rcases h5 z hz with q | q
    · exact absurd e q
    · exact q
  · obtain ⟨⟨a, b⟩, hz, e1, e2⟩ := h8
    cases e1; cases e2
    exact hz
theorem lookup_all {α : Type} {y : Str} {c : α} : ∀ {l : List (Str × α)}, l ≠ [] → (∀ p ∈ l, p = (y, c)) → l.lookup y = some c
  | [], h, _ => absurd rfl h
  | p :: l, _, h => by
    rw [h p List.mem_cons_self]
    simp [List.lookup]
theorem clo_lookup {cells : List (Str × Addr)} {scope : Scope} {x y : Str} {c : Addr} (L : LamKC scope x y) (hc : cells.lookup y = some c) : (cloFrom cells scope.names []).lookup y = some c := by
  have hm := cloFrom_has (cells := cells) (acc := []) L.mem
  refine lookup_all (fun e => by rw [e] at hm; cases hm) fun p hp => ?_
  obtain ⟨n, c2⟩ := p
  rcases cloFrom_mem hp with z | ⟨z1, z2⟩
  · cases z
  · have := L.only _ z1 rfl
    cases this
    rw [z2, hc]; rfl
section
variable {X : Cx} {pins : List (Addr × Obj)} {σ : L2.St} {H : Hp} {s : Shared}
theorem key_turnC {A : Around} {scope : Scope} {x y : Str} {params : Arguments} {body : Expr} {f : List (List Key × D) → D → Option D} {fa c' c a : Addr} {pm ctv : Value} {F : Hp} {A0 : List Addr} {q : Str} {cells : List (Str × Addr)} {es : List (List Key × D)} {kvs : List (List Key × V)} (I : Inv X pins σ H s) (hF : Same F H) (hd : A.depth < recursionLimit) (hu : A.units + 16 < cLine) (L : LamKC scope x y)
    (hbind : ∀ (q : Str) (cl : List (Str × Addr)) (pm cv ctv u : Value), bindArgs (PySem.W.kla_fn "<lambda>" q params body scope cl pm cv ctv) ⟨[u], []⟩ = pure [(x, u)])
    (hfo : s.heap.get? fa = some (PySem.W.kla_obj "<lambda>" q params body scope (cloFrom cells scope.names []) pm c' ctv)) (hco : H c' = some (LamX.CodeO c' q)) (hb : PKbC X scope x y body f) {d : D} {v : V} {u : Value} (dv : Dat X.K F A0 d v) (rv : RelV v u)
    (hc : cells.lookup y = some c) (hcc : s.heap.IsCell c (some (.ref a))) (hR : Rd H a (.dT kvs)) (hG : RelG X.K F A0 es kvs) {z : D} (hz : f es d = some z) :
    wpAny (model X.prog X.w) A (call (.ref fa) [u]) (PySem.W.KeyPure (pyD z) s) (fun _ _ => False) s := by
  obtain ⟨⟨oc, vs, t, hoc, hdc, hvc⟩, _, _⟩ := I.hok c' _ hco
  have rc : codeAny (model X.prog X.w) A (.call (.ref fa) ⟨[u], []⟩) (fun r s' => ∃ w, r = .ok (.ret w) ∧ PySem.W.KeyPure (pyD z) s w s') s := by
    refine PySem.W.kla_callFunE hd hfo rfl L.co L.gen rfl ⟨c', oc, vs, t, rfl, hoc, hdc, hvc⟩ ?_
    rw [hbind]
    refine wpAny_pure (wpAny_newFunctionEnv L.nocell (fun y hy => by rw [List.mem_singleton.mp hy]; exact L.loc) (fun h₁ hns hsb => ⟨I.nolimit.fresh _ hsb, ?_⟩) L.kind)
    show codeAny _ _ (.expr body _) _ _
    have kp : ∀ b o, s.heap.get? b = some o → h₁.get? b = some o := fun b o e => hsb.extBut b o (Nat.ne_of_lt (Heap.lt_size e)) (Heap.get?_push_of_some _ e)
    refine PySem.W.kla_codeExpr (hb.run _ _ _ u d z es _ _ (by show A.units + 3 + 8 < _; omega) rfl ⟨L.kind, L.loc, L.fr, ⟨_, hns, ?_⟩, F, H, A0, v, c, a, kvs, I.hok.kept kp, hF, dv, rv, clo_lookup L hc, hcc.keeps kp, hR, hG⟩ hz fun r s' hk => ⟨r, rfl, ?_⟩)
    · show List.lookup x [(x, u)] = some u
      simp [List.lookup]
    · obtain ⟨h2, tk, rfl, k2, rd⟩ := hk
      exact ⟨h2, tk, rfl, fun b o e => k2 b o (kp b o e), rd⟩
  refine wpAny_call (codeAny_mono rc fun r s' hq => ?_)
  obtain ⟨w, rfl, hk⟩ := hq
  exact hk
end
section
variable {X : DX} {e body : Expr} {t : AD} {f : List (List Key × D) → D → Option D} {x y : Str} {params : Arguments} {scope : Scope} {p lpos kpos pos : Pos} {c P : Addr}
def dSortKC (i : Nat) (t : AD) (f : List (List Key × D) → D → Option D) : ED := fun env s Q => t env s fun xs s1 => ∃ z x ds es, env[i]? = some (some z) ∧ dictD s1 z = some (.t es) ∧ xs = [x] ∧ seqL s1 x = some ds ∧ SortKOk (f es) ds ∧ Q (.lst (srtK (f es) ds)) s1
theorem pd_sortKC {i : Nat} (hN : X.N[i]? = some y) (hcel : X.env.scope.names.lookup y = some .cell) (hu : X.A.units + 64 < cLine) (hdep : X.A.depth < recursionLimit) (hg : Gl X "sorted") (hm : X.mg "sorted" = none) (ha : PAD X [e] t) (TB : LamX.TabB X.base X.mg c P) (hcode : X.env.code = .ref c)
    (hmT : (P, X.env.qual ++ "<lambda>") ∈ tabsOf X.K) (hu1 : ∀ p ∈ tabsOf X.K, p.1 = P → p.2 = X.env.qual ++ "<lambda>") (hdef : defaultsOf params X.env = ([], [])) (L : LamKC scope x y)
    (hbind : ∀ (q : Str) (cl : List (Str × Addr)) (pm cv ctv u : Value), bindArgs (PySem.W.kla_fn "<lambda>" q params body scope cl pm cv ctv) ⟨[u], []⟩ = pure [(x, u)]) (hb : PKbC X scope x y body f)
    (he : backTo pos (starEach [e] X.env) = (false, eval e X.env) :: backTo pos (starEach [] X.env) := by rfl) (hpl : (backTo pos (starEach [e] X.env)).any (·.1) = false := by rfl) :
    PD X (.Call (.Name "sorted" p) [e] [⟨some "key", .Lambda params body scope lpos, kpos⟩] pos) (dSortKC i t f) := by
  refine ⟨⟨fun pins s σ H Q I h => ?_⟩, fun _ _ _ _ g h => ha.mono _ _ _ _ (fun _ _ ⟨z, x, ds, es, a0, b0, a, b, c, q⟩ => ⟨z, x, ds, es, a0, b0, a, b, c, g _ _ q⟩) h⟩
  obtain ⟨env, s0, A0, B, w, h⟩ := h
  refine wpAny_Call_Name_kw (ld_blt I hg hm (show bootBuiltins "sorted" = some (.builtin "sorted") by decide +kernel) ?_ (by decide) (by decide))
  refine PyProof.Rows.callWith_kw (thn (ha.pa.run pos pins s σ H (fun vs H1 => ∃ (A1 : List Addr) (s1 : Sto) (y' : D) (v : V) (ds : List D) (es : List (List Key × D)) (zd : D), vs = [v] ∧ Wo X.kk B H1 A1 s1 env σ ∧ RepS X.K B H1 A1 s1 ∧ Ext B H A0 s0 H1 A1 s1 ∧ Dat X.K (Fz B H1 A1 s1) A1 y' v ∧ env[i]? = some (some zd) ∧ dictD s1 zd = some (.t es) ∧ seqL s1 y' = some ds ∧ SortKOk (f es) ds ∧ PostE X.K B H A0 s0 Q (.lst (srtK (f es) ds)) s1) I
    (rdA_go ha.mono w h fun xs s1 vs H1 A1 q w1 e1 dv => by
      obtain ⟨zd, y', ds, es, hi, hdd, rfl, hs, ok, q⟩ := q
      obtain ⟨v, rfl, d⟩ := one_of dv
      exact ⟨A1, s1, y', v, ds, es, zd, rfl, w1, w1.rs, e1, d, hi, hdd, hs, ok, q⟩)) fun us s1 ⟨vs, H1, I1, r1, A1, st1, y', v, ds, es, zd, evs, w1, R1, e1, dy, hi, hdd, hs, ok, q⟩ => ?_) he hpl rfl rfl
  subst evs
  show wpAny _ _ (evalAll [do let v ← eval (.Lambda params body scope lpos) X.env; standAt pos; pure v]) _ _ s1
  refine wpAny_evalAll_cons (wpAny_bind (LamX.lam_make2 (T := tabsOf X.K) I1 TB hcode hmT hu1 R1.tb hdef (fun z hz ez => by rw [L.only z hz ez]; exact I1.ok.has _ (.inl hcel)) fun fa c' pm ctv H2 s2 I2 eN T2 hfo hfn hff hco => wpAny_bind (wpAny_standAt (wpAny_pure (wpAny_evalAll_nil ?_)))))
  obtain ⟨R2, e2⟩ := R1.growN eN T2
  have dy2 := dy.ext e2
  obtain ⟨vz, hvz, dz⟩ := w1.re.get i zd hi
  obtain ⟨az, evz, kvs, hRz, hGz⟩ := dictD_rd R2 (dz.ext e2) hdd
  subst evz
  obtain ⟨m2, hns2, hlk⟩ := I2.loc
  obtain ⟨uz, ruz, look⟩ := hlk i y _ hN hvz (.inr (.inl hcel))
  cases (show uz = Value.ref az from ruz)
  obtain ⟨cc, hcc1, hcc2⟩ : ∃ cc, X.env.cells.lookup y = some cc ∧ s2.heap.IsCell cc (some (.ref az)) := by
    rcases look with ⟨z1, _⟩ | ⟨_, z2⟩
    · have z3 : X.env.scope.names.lookup y = some .local := z1
      rw [hcel] at z3
      cases z3
    · exact z2
  obtain ⟨a, ws, rfl, h1, h2⟩ := of_seqL R2 dy2 hs
  obtain rfl := Vals.ref1 r1
  obtain ⟨its, rv, il⟩ := isList_of I2 h1
  show wpAny _ _ (call (.builtin "sorted") [.ref a] [(Str.ofString "key", .ref fa)]) _ _ s2
  refine PySem.W.sorted_key_data (R := fun u d => ∃ v, RelV v u ∧ Dat X.K (Fz B H2 A1 st1) A1 d v) (k := keyD (f es)) (b := false) il (each_of h2 rv) ok.al ok.so ok.ln (fun d hd => by have := ok.dp d hd; omega) (PyProof.Rows.ksk_s1 _ _) (fun _ => PyProof.Rows.ksk_l1 _ _) (fun _ => PyProof.Rows.ksk_t1 _ _) (fun u d ⟨v', r', d'⟩ hd h tk kp => ?_) fun out cc' h' tk kp hfr hout hol eo => ?_
  · obtain ⟨z, hz⟩ := ok.fk d hd
    have ek : keyD (f es) d = pyD z := by unfold keyD; rw [hz]; rfl
    rw [ek]
    exact key_turnC (A := X.A.in1.in1) (I2.kept kp) fz_same hdep (by show X.A.units + 1 + 1 + 16 < _; omega) L hbind (kp _ _ hfo) hco hb d' r' hcc1 (hcc2.keeps kp) hRz hGz hz
  · obtain ⟨ys, y1, y2⟩ := of_each eo
    have hlen : ys.length ≤ sizeLine := by rw [y1.length, hol]; exact ok.ln
    have hp : H2 (s2.heap.objs.size + 1) = none := I2.hok.fresh (Nat.le_succ _)
    obtain ⟨r3, e3, f3⟩ := R2.laid (o := .lst ys) hp
    exact ⟨.ref (s2.heap.objs.size + 1), _, I2.laid (a := s2.heap.objs.size + 1) (o := .lst ys) (t' := tk) (fun b o e => kp b o e) (Nat.le_succ _) ⟨hlen, out, cc', y1, hout⟩, rfl, q _ _ _ r3 ((e1.trans e2).trans e3) (.lst f3 (y2.ext e3))⟩
theorem pd_sortKCL {x0 : Str} {k i : Nat} (hN : X.N[i]? = some y) (hcel : X.env.scope.names.lookup y = some .cell) (TL : LamAt X.K X.mg X.base x0 X.env.code) (hq : X.env.qual = x0 ++ (".<locals>." : Str)) (hr : RoomG k X.A) (hg : Gl X "sorted") (hm : X.mg "sorted" = none) (ha : PAD X [e] t) (hdef : defaultsOf params X.env = ([], [])) (L : LamKC scope x y)
    (hbind : ∀ (q : Str) (cl : List (Str × Addr)) (pm cv ctv u : Value), bindArgs (PySem.W.kla_fn "<lambda>" q params body scope cl pm cv ctv) ⟨[u], []⟩ = pure [(x, u)]) (hb : PKbC X scope x y body f)
    (he : backTo pos (starEach [e] X.env) = (false, eval e X.env) :: backTo pos (starEach [] X.env) := by rfl) (hpl : (backTo pos (starEach [e] X.env)).any (·.1) = false := by rfl) :
    PD X (.Call (.Name "sorted" p) [e] [⟨some "key", .Lambda params body scope lpos, kpos⟩] pos) (dSortKC i t f) := by
  obtain ⟨c, P, e1, e2, e3, e4⟩ := TL
  exact pd_sortKC hN hcel hr.units (by have := hr.r.dp; omega) hg hm ha e2 e1 (by rw [hq]; exact e3) (by rw [hq]; exact e4) hdef L hbind hb he hpl
end
end Dl
namespace Dl
open PySem PySem.Spec PyProof.Rows L2
structure OwnX (K : PySem.W.Frag) (mg : Str → Option Value) (x : Str) (C : Addr) : Prop where
  g : mg x = some (.ref C)
  kp : PySem.W.keepIn K (.ref C) = true
  ex : PySem.W.excIn K C [.type "ValueError", .type "Exception", .type "BaseException", .type "object"] "ValueError.__new__" = true
  b : PySem.W.subIn K (.ref C) (.type "BaseException") = some true
  t : PySem.W.typeIn K (.ref C) = some (.type "type")
section
variable {X : DX}
def dRaise (W : WXD) (x : Str) : SD := fun _ env s => W x [] env s
theorem mono_raise {W : WXD} {x : Str} : MonoS (dRaise W x) := fun _ _ _ _ _ h => h
theorem psd_raise {x m : Str} {C : Addr} {j : Nat} {p p2 pos pos' : Pos} (hc : X.calm = true) (o : OwnX X.K X.mg x C) (hg : Gl X x) (hdb : (x == ("__debug__" : Str)) = false := by decide) :
    PSD X (.Raise (some (.Call (.Name x p) [.Constant (.str m) j p2] [] pos)) none pos') (dRaise X.WD x) :=
  ⟨ps_imp (L2N.ps_raise hc X.tk (L2N.pmk_own PySem.F.excBase_ValueError o.ex o.g o.kp (raises_own o.b o.t) hg hdb)) fun D σ H ⟨env, s, A, B, w, h⟩ => X.wd x [] env s (.ref C) none σ B H A w o.g (.inl ⟨rfl, rfl⟩) h, mono_raise⟩
end
theorem RepE.hole {K : PySem.W.Frag} {F : Hp} {A : List Addr} {env : En} {σ : L2.St} (h : RepE K F A env σ) (i : Nat) (v : Option V) : RepE K F A (env.set i none) (σ.set i v) := by
  refine ⟨by rw [List.length_set, List.length_set]; exact h.len, fun j d e => ?_⟩
  by_cases hj : j = i
  · subst hj
    by_cases hl : j < env.length
    · rw [List.getElem?_set_self hl] at e; cases e
    · rw [List.getElem?_eq_none (by simpa using hl)] at e; cases e
  · rw [List.getElem?_set_ne (Ne.symm hj)] at e
    obtain ⟨v', h1, h2⟩ := h.get j d e
    exact ⟨v', by rw [List.getElem?_set_ne (Ne.symm hj)]; exact h1, h2⟩
abbrev noW : WXD := fun _ _ _ _ => False
def WM {α : Type} (t : WXD → En → Sto → (α → Sto → Prop) → Prop) : Prop := ∀ (W W' : WXD) env s Q, (∀ x fs e s', W x fs e s' → W' x fs e s') → t W env s Q → t W' env s Q
def WMS (t : WXD → SD) : Prop := ∀ (W W' : WXD) E env s, (∀ x fs e s', W x fs e s' → W' x fs e s') → t W E env s → t W' E env s
theorem wm_call {sp : SpD} {dds : List D} {t : AD} (ms : MonoSp sp) (mt : Mono t) : WM (fun W => dCallX W sp dds t) := fun W W' env s Q f h => mt _ _ _ _ (fun _ _ q => ms _ _ _ _ _ _ (fun _ _ h => h) (fun c fs s' h => f c fs env s' h) q) h
def tTr (K : PySem.W.Frag) (mg : Str → Option Value) (tbD : WXD → SD) (W : WX) : TS := fun Dn σ H => ∃ (Z : List Addr → Hp → List Addr → Sto → Prop) (zc : ∀ {B : List Addr} {H H' : Hp} {A A' : List Addr} {s s' : Sto}, Z B H A s → Ext B H A s H' A' s' → Z B H' A' s') (WD : WXD)
  (_ : ∀ (x : Str) (fs : List (Str × D)) (env : En) (s' : Sto) (cls : Value) (dx : Option Addr) (σ : L2.St) (B : List Addr) (H' : Hp) (A' : List Addr), Wo ⟨K, Z, zc⟩ B H' A' s' env σ → mg x = some cls → XRep K (Fz B H' A' s') A' fs dx → WD x fs env s' → W cls dx σ H'), rdS ⟨K, Z, zc⟩ (tbD WD) Dn σ H
def dxTr (X : Cx) (pn : List (Addr × Obj)) (xe : Value → Shared → Prop) (W : WX) (tk : L2N.Takes (X.tr pn xe) W) (Z : List Addr → Hp → List Addr → Sto → Prop) (zc : ∀ {B : List Addr} {H H' : Hp} {A A' : List Addr} {s s' : Sto}, Z B H A s → Ext B H A s H' A' s' → Z B H' A' s') (WD : WXD)
    (wd : ∀ (x : Str) (fs : List (Str × D)) (env : En) (s' : Sto) (cls : Value) (dx : Option Addr) (σ : L2.St) (B : List Addr) (H' : Hp) (A' : List Addr), Wo ⟨X.K, Z, zc⟩ B H' A' s' env σ → X.mg x = some cls → XRep X.K (Fz B H' A' s') A' fs dx → WD x fs env s' → W cls dx σ H') : DX :=
  { X.tr pn xe with W := W, tk := tk, Z := Z, zc := zc, WD := WD, wd := wd }
end Dl
namespace Dl
open PySem PySem.Spec PyProof.Rows L2
section
variable {X : Cx} {pins : List (Addr × Obj)} {σ : L2.St} {H : Hp} {s : Shared}
theorem inv_track {a : Addr} {o : HO} (I : Inv X pins σ H s) (n0 : X.s_0.heap.get? a = none) (na : H a = none) (nL : a ≠ X.env.locals) (nC : ∀ x c, X.env.cells.lookup x = some c → c ≠ a) (nP : ∀ p ∈ X.pn ++ pins, p.1 ≠ a)
    (new : ObjOk X.prog X.w (upd H a o) s.heap a o) : Inv X pins σ (upd H a o) s := by
  have ne : ∀ {b : Addr} {u : HO}, H b = some u → b ≠ a := fun e z => by rw [z, na] at e; cases e
  refine ⟨I.ok, I.os, I.bare, ⟨I.base.keep, I.base.slot, fun b u e n hb => ?_, I.base.there, fun b xs e => ?_, fun b u w e => ?_, fun b ps e => ?_⟩, I.loc, I.cell, ?_, fun x c e => ?_, fun p hp => ?_, fun b u e => ?_, I.len⟩
  · rw [upd_ne (fun z => by rw [z, n0] at e; cases e)]; exact I.base.free b u e n hb
  · have q := I.base.tups b xs e
    rw [upd_ne (ne q)]; exact q
  · have q := I.base.frzs b u w e
    rw [upd_ne (ne q)]; exact q
  · obtain ⟨m, q⟩ := I.base.tbls b ps e
    exact ⟨m, by rw [upd_ne (ne q)]; exact q⟩
  · rw [upd_ne (Ne.symm nL)]; exact I.free
  · rw [upd_ne (nC x c e)]; exact I.freeC x c e
  · obtain ⟨e, n, n1, nf, d⟩ := I.pin p hp
    exact ⟨e, by rw [upd_ne (nP p hp)]; exact n, n1, nf, d⟩
  · by_cases hb : b = a
    · subst hb; rw [upd_same] at e; cases e; exact new
    · rw [upd_ne hb] at e
      exact (I.hok b u e).stay (fun _ _ _ q => q) (fun c q => by rw [upd_ne (ne q)]; exact q) fun c xs q => by rw [upd_ne (ne q)]; exact q
theorem inv_suite (I : Inv X pins σ H s) (a : Addr) : Inv (X.suite a (X.pn ++ pins)) [] σ H s :=
  ⟨I.ok.suite _ _, I.os, I.bare, I.base, I.loc, I.cell, I.free, I.freeC, fun p hp => I.pin p (by rw [List.append_nil] at hp; exact hp), I.hok, I.len⟩
theorem inv_unsuite {a : Addr} {pn' : List (Addr × Obj)} (I : Inv (X.suite a (X.pn ++ pins)) pn' σ H s) (ok : X.Ok) : Inv X pins σ H s :=
  ⟨ok, I.os, I.bare, I.base, I.loc, I.cell, I.free, I.freeC, fun p hp => I.pin p (List.mem_append_left _ hp), I.hok, I.len⟩
end
def wAsT (K : PySem.W.Frag) (c : Value) (i : Nat) (ts : Addr → TS) (Wout : WX) (D : Ends) : WX := fun cls d σ H =>
  ∃ b, PySem.W.exmOne K cls c = some b ∧ (b = true → ∀ a, H a = none → ts a { nx := fun σ' H' => D.nx (σ'.set i none) H', rt := D.rt, bk := fun σ' H' => D.bk (σ'.set i none) H', ct := fun σ' H' => D.ct (σ'.set i none) H' } (σ.set i (some (.ref a))) (upd H a (ExA cls d a))) ∧
    (b = false → Wout cls d σ H)
section
variable {X : Cx} {x n : Str} {c : Value} {i : Nat} {body suite : List Stmt} {b₀ : Stmt} {np pos pos' : Pos} {tb : WX → TS} {ts : Addr → TS} {Wout : WX}
theorem ps_try_asT (hs : X.stack = X.env :: X.outer) (hf : X.env.frame = some X.env.locals) (hex : X.ex = []) (hN : X.N.Nodup) (hi : X.N[i]? = some n) (hln : X.env.kindOf n = some .local) (hc : Names X x c) (tk : L2N.Takes X Wout)
    (hb : ∀ (W : WX) (pn : List (Addr × Obj)) (xe : Value → Shared → Prop), L2N.Takes (X.tr pn xe) W → PassesOwn (model X.prog X.w) X.A X.env xe → PSs (X.tr pn xe) body (tb W))
    (hsu : ∀ (a : Addr) (pn : List (Addr × Obj)), PSs (X.suite a pn) (b₀ :: suite) (ts a)) :
    PS X (.Try body [.ExceptHandler (some (.Name x np)) (some n) (b₀ :: suite) pos'] [] [] pos) (fun D σ H => tb (wAsT X.K c i ts Wout D) D σ H) := by
  refine ⟨fun pins s σ H D I h => ?_⟩
  have ok := I.ok
  have hfr : X.A.frames = some (X.env :: X.outer) := by rw [ok.frames, hs]
  have hloc : Loc X.env.scope n := .inl hln
  refine wpAny_Try_except ?_
  refine wpAny_mono ((hb (wAsT X.K c i ts Wout D) (X.pn ++ pins) (fun e s₁ => wpAny (model X.prog X.w) X.A (noteFrame e X.env) (fun _ s₂ => wpAny (model X.prog X.w) X.A (setFlight e none) (fun _ s₃ =>
    wpAny (model X.prog X.w) X.A (handleBy e X.env [.ExceptHandler (some (.Name x np)) (some n) (b₀ :: suite) pos']) (SP X pins D) X.xe s₃) X.xe s₂) X.xe s₁) (fun u s' xx => ?_) PassesOwn.looking).run [] s σ H D (I.toTry _) h) (fun f s1 hsp => ?_) (fun e s1 he => he)
  · obtain ⟨a, B, sI, pins', σ', H', cls, d, rfl, J', nb, up, sky, na, os, ag, b, hb1, hyes, hno⟩ := xx
    have J : Inv X pins σ' H' sI := J'.ofTry ok
    have sky' : Sky B (X.env :: X.outer) a (L2N.Zn cls d) X.env.locals s'.heap := by rw [← hs]; exact sky
    show wpAny (model X.prog X.w) X.A (noteFrame (.ref a) X.env) _ _ _
    refine L2N.Sky.land L2N.Zn.steady hfr hf sky' fun h3 fl3 up3 => ?_
    have J3 : Inv X pins σ' H' { s' with heap := h3 } := J.landed nb fl3.1 (up.trans up3) os ag
    obtain ⟨oe3, vs3, he3, hz3, hd3⟩ := fl3.there
    have nfr : a ∉ frs (X.env :: X.outer) := fun hm => by
      obtain ⟨_, o', e', hnf⟩ := fl3.2.2.1.mem hm
      rw [he3] at e'; cases e'
      exact hnf _ hd3
    have nL : a ≠ X.env.locals := fun z => nfr (List.mem_filterMap.mpr ⟨X.env, List.mem_cons_self, by rw [hf, z]⟩)
    have nF : a ∉ X.fs := fun hm => by
      obtain ⟨e, he, q⟩ := List.mem_filterMap.mp hm
      exact nfr (List.mem_filterMap.mpr ⟨e, List.mem_cons_of_mem _ he, q⟩)
    have nI : ∀ o, sI.heap.get? a ≠ some o := fun o e => by
      have z := nb a o e (by rw [hs]; exact nfr)
      rw [fl3.2.1] at z; cases z
    have n0 : X.s_0.heap.get? a = none := by
      cases e : X.s_0.heap.get? a with
      | none => rfl
      | some o =>
        obtain ⟨o', e'⟩ := J.base.there a o e (by rw [hex]; exact fun z => nomatch z)
        exact (nI o' e').elim
    have nC : ∀ y c', X.env.cells.lookup y = some c' → c' ≠ a := fun y c' e z => by
      obtain ⟨v, o, ho, _⟩ := J.cell y c' e
      rw [z] at ho; exact nI o ho
    have nP : ∀ p ∈ X.pn ++ pins, p.1 ≠ a := fun p hp z => by
      have e := (J.pin p hp).1
      rw [z] at e; exact nI _ e
    have S3 := J3.suite he3 hd3 na nL nF
    refine wpAny_handleBy_cons (codeAny_handlers_test ?_) (by intro q; cases q)
    have LT : PySem.W.Looks (model X.prog X.w) h3 (typeOf (.ref a)) cls := fun A Q E s k q => wpAny_typeOf_ref (k _ _ he3) (by rw [hz3.1]; exact q)
    have LM := PySem.W.exm_one (M := model X.prog X.w) (J3.kIn) LT hb1
    have test : ∀ {Q : Value → Shared → Prop} {E : Value → Shared → Prop}, Q c { s' with heap := h3 } → wpAny (model X.prog X.w) (X.A.mark (some (.ref a))) (eval (.Name x np) X.env) Q E { s' with heap := h3 } := fun {Q E} q => by
      obtain ⟨hg, hdbg, hm | ⟨hm, hv, hnn⟩⟩ := hc
      · exact ld_glob (X := X.suite a ((a, oe3) :: (X.pn ++ pins))) S3 hg hm q hdbg
      · exact ld_blt (X := X.suite a ((a, oe3) :: (X.pn ++ pins))) S3 hg hm hv q hnn hdbg
    refine test (LM.here ?_)
    cases b with
    | true =>
      refine codeAny_handlers_suite_as ?_
      refine HandSPX.lands_againZ fl3 fun h4 fl4 up4 => ?_
      have J4 : Inv X pins σ' H' { s' with heap := h4 } := J.landed nb fl4.1 ((up.trans up3).trans up4) os ag
      obtain ⟨oe4, vs4, he4, hz4, hd4⟩ := fl4.there
      have T4 : Inv X pins σ' (upd H' a (ExA cls d a)) { s' with heap := h4 } := inv_track J4 n0 na nL nC nP ⟨⟨oe4, vs4, he4, hz4, hd4⟩, ⟨oe4, he4⟩, fun _ _ ⟨o, v, q, r⟩ k => ⟨o, v, k o q, r⟩⟩
      refine store_ok (X := X.suite a (X.pn ++ pins)) (v := .ref a) (inv_suite T4 a) hN hi hloc rfl (fun s5 S5 => ?_) (.inr hln)
      refine wpAny_mono ((hsu a (X.pn ++ pins)).run [] s5 _ _ _ S5 (hyes rfl a na)) (fun f s6 hsp => ?_) (fun _ _ z => False.elim z)
      have end_ : ∀ {σ6 : L2.St} {H6 : Hp} {Q : Shared → Prop}, Inv (X.suite a (X.pn ++ pins)) [] σ6 H6 s6 → (∀ s7, Inv X pins (σ6.set i none) H6 s7 → Q s7) →
          wpAny (model X.prog X.w) X.A (do bindName X.env n .none; unbindBehindTheSuite X.env n pos') (fun _ s7 => Q s7) X.xe s6 := fun {σ6 H6 Q} S6 hq => gone_ok (inv_unsuite S6 ok) hN hi hln hq
      cases f with
      | next =>
        obtain ⟨σ6, H6, S6, q6⟩ := hsp
        exact end_ S6 fun s7 J7 => ⟨_, _, J7, q6⟩
      | brk =>
        obtain ⟨σ6, H6, S6, q6⟩ := hsp
        exact end_ S6 fun s7 J7 => ⟨_, _, J7, q6⟩
      | cont =>
        obtain ⟨σ6, H6, S6, q6⟩ := hsp
        exact end_ S6 fun s7 J7 => ⟨_, _, J7, q6⟩
      | ret u =>
        obtain ⟨v6, σ6, H6, S6, r6, q6⟩ := hsp
        exact end_ S6 fun s7 J7 => ⟨_, _, _, J7, r6, q6⟩
    | false =>
      show wpAny _ X.A (handleBy (.ref a) X.env []) _ _ _
      refine wpAny_handleBy_nil ?_
      obtain ⟨k1, k2, k3, oe, vs, T, oT, ts', he, hz, hd, h1, hr⟩ := id fl3
      unfold PySem.passOn
      refine wpAny_bind (wpAny_field he hd h1 ?_)
      rw [if_neg (show ¬ ((Value.ref T == Value.none) = true) from by simp)]
      have fin : wpAny (model X.prog X.w) X.A (setFlight (.ref a) X.env.frame) (fun _ s4 => wpAny (model X.prog X.w) X.A (throw (.ref a) : Sem Flow) (SP X pins D) X.xe s4) X.xe { s' with heap := h3 } := by
        rw [hf]
        refine HandSPX.setFlight_upZ fl3 fun h4 hh4 up4 => wpAny_throw (tk _ _ ?_)
        exact ⟨a, B, sI, pins, σ', H', cls, d, rfl, J, nb, (up.trans up3).trans up4, .inr (.inr (by rw [hs]; exact hh4)), na, os, ag, hno rfl⟩
      first
        | exact wpAny_bind (wpAny_pure (wpAny_bind fin))
        | exact wpAny_bind fin
  · cases f with
    | next =>
      obtain ⟨σ', H', J', q⟩ := hsp
      exact wpAny_execs_nil ⟨σ', H', J'.ofTry ok, q⟩
    | brk =>
      obtain ⟨σ', H', J', q⟩ := hsp
      exact ⟨σ', H', J'.ofTry ok, q⟩
    | cont =>
      obtain ⟨σ', H', J', q⟩ := hsp
      exact ⟨σ', H', J'.ofTry ok, q⟩
    | ret u =>
      obtain ⟨v, σ', H', J', r, q⟩ := hsp
      exact ⟨v, σ', H', J'.ofTry ok, r, q⟩
end
def excD (x : Str) (fs : List (Str × D)) : D := .exc x (fs.map (·.1)) (fs.map (·.2))
def goE (i : Nat) (E : EndsD) : EndsD := ⟨fun e s => E.nx (e.set i none) s, E.rt, fun e s => E.bk (e.set i none) s, fun e s => E.ct (e.set i none) s⟩
def dTry (W : WXD) (hit : Str → Option Bool) (i : Nat) (tb : WXD → SD) (ts : SD) : SD := fun E env s => tb (fun x fs env' s' => ∃ b, hit x = some b ∧ (b = true → fs.map (·.1) ≠ [("" : Str)] ∧ ts (goE i E) (env'.set i (some (excD x fs))) s') ∧ (b = false → W x fs env' s')) E env s
structure HitX (K : PySem.W.Frag) (mg : Str → Option Value) (P : Str) (c : Value) (hit : Str → Option Bool) : Prop where
  g : mg P = some c
  h : ∀ x b cls, hit x = some b → mg x = some cls → PySem.W.nsIn K mainGlobals x = some (some cls) ∧ PySem.W.exmOne K cls c = some b
theorem excD_dat {K : PySem.W.Frag} {B : List Addr} {H : Hp} {A : List Addr} {s : Sto} {x : Str} {fs : List (Str × D)} {cls : Value} {dx : Option Addr} {a : Addr} (R : RepS K B H A s) (hk : PySem.W.nsIn K mainGlobals x = some (some cls)) (xr : XRep K (Fz B H A s) A fs dx) (hf : fs.map (·.1) ≠ [("" : Str)]) (na : H a = none) :
    RepS K B (upd H a (ExA cls dx a)) A s ∧ Ext B H A s (upd H a (ExA cls dx a)) A s ∧ Dat K (Fz B (upd H a (ExA cls dx a)) A s) A (excD x fs) (.ref a) := by
  obtain ⟨r2, e2, f2⟩ := R.laid (o := ExA cls dx a) na
  refine ⟨r2, e2, ?_⟩
  rcases xr with ⟨rfl, rfl⟩ | ⟨hn, d, fvs, rfl, h1, h2, h3⟩
  · exact .exc (fvs := []) ⟨cls, hk, .inl ⟨f2, rfl, rfl⟩⟩ .nil
  · exact .exc (fvs := fvs) ⟨cls, hk, .inr (.inl ⟨d, f2, e2.same _ _ h1, h2, fun z => hn (List.map_eq_nil_iff.mp z), hf⟩)⟩ (h3.ext e2)
theorem goE_le {i : Nat} {a b : EndsD} (l : a.Le b) : (goE i a).Le (goE i b) := ⟨fun _ _ h => l.nx _ _ h, fun _ _ h => l.rt _ _ h, fun _ _ h => l.bk _ _ h, fun _ _ h => l.ct _ _ h⟩
section
variable {X : DX} {i : Nat} {n P : Str} {c : Value} {hit : Str → Option Bool} {tbD : WXD → SD} {ts : SD} {body suite : List Stmt} {b₀ : Stmt} {np pos pos' : Pos}
theorem psd_try (B : HitX X.K X.mg P c hit) (hs : X.stack = X.env :: X.outer) (hf : X.env.frame = some X.env.locals) (hex : X.ex = []) (hN : X.N.Nodup) (hi : X.N[i]? = some n) (hln : X.env.kindOf n = some .local)
    (hgP : Gl X P) (hdP : (P == ("__debug__" : Str)) = false) (hW : WMS tbD)
    (hbody : ∀ (pn : List (Addr × Obj)) (xe : Value → Shared → Prop) (W : WX) (tk : L2N.Takes (X.toCx.tr pn xe) W) (Z : List Addr → Hp → List Addr → Sto → Prop) (zc : ∀ {B : List Addr} {H H' : Hp} {A A' : List Addr} {s s' : Sto}, Z B H A s → Ext B H A s H' A' s' → Z B H' A' s') (WD : WXD)
      (wd : ∀ (x : Str) (fs : List (Str × D)) (env : En) (s' : Sto) (cls : Value) (dx : Option Addr) (σ : L2.St) (B : List Addr) (H' : Hp) (A' : List Addr), Wo ⟨X.K, Z, zc⟩ B H' A' s' env σ → X.mg x = some cls → XRep X.K (Fz B H' A' s') A' fs dx → WD x fs env s' → W cls dx σ H'), PSsD (dxTr X.toCx pn xe W tk Z zc WD wd) body (tbD WD))
    (hsu : ∀ (a : Addr) (pn : List (Addr × Obj)), PSsD (dx0 (X.toCx.suite a pn)) (b₀ :: suite) ts) :
    PSD X (.Try body [.ExceptHandler (some (.Name P np)) (some n) (b₀ :: suite) pos'] [] [] pos) (dTry X.WD hit i tbD ts) := by
  refine ⟨ps_imp (ps_try_asT (i := i) (Wout := X.W) (tb := tTr X.K X.mg tbD) (ts := fun _ => rdS (dx0 X.toCx).kk ts) hs hf hex hN hi hln ⟨hgP, hdP, .inl B.g⟩ X.tk ?_ ?_) fun D σ H ⟨env, s, A, B0, w, h⟩ => ?_, ?_⟩
  · intro W pn xe tk _
    exact ⟨fun pins s σ H D I ⟨Z, zc, WD, wd, h⟩ => (hbody pn xe W tk Z zc WD wd).pss.run pins s σ H D I h⟩
  · exact fun a pn => (hsu a pn).pss
  · refine ⟨fun B1 H1 A1 s1 => B1 = B0 ∧ Ext B0 H A s H1 A1 s1 ∧ X.Z B0 H1 A1 s1, fun {B H1 H2 A1 A2 s1 s2} z e => ⟨z.1, z.2.1.trans (by rw [← z.1]; exact e), X.zc z.2.2 (by rw [← z.1]; exact e)⟩, _, ?_, env, s, A, B0, ⟨w.rs, w.re, rfl, .refl, w.z⟩, h⟩
    rintro x fs env' s' cls dx σ' B1 H' A' ⟨rs, re, rfl, ex, z⟩ hm xr ⟨b, hb, hy, hn⟩
    obtain ⟨hk, hx⟩ := B.h x b cls hb hm
    refine ⟨b, hx, fun e a na => ?_, fun e => X.wd x fs env' s' cls dx σ' B1 H' A' ⟨rs, re, z⟩ hm xr (hn e)⟩
    obtain ⟨hf1, q⟩ := hy e
    obtain ⟨r2, e2, d2⟩ := excD_dat (a := a) rs hk xr hf1 na
    refine ⟨_, s', A', B1, ⟨r2, (re.ext e2).set i d2, trivial⟩, (hsu a []).mono _ _ _ _ ?_ q⟩
    have x2 := ex.trans e2
    exact ⟨fun e s1 h σ1 H1 A1 r y re1 => h (σ1.set i none) H1 A1 r (x2.trans y) (re1.hole i none), fun d s1 h => PostE.from x2 h, fun e s1 h σ1 H1 A1 r y re1 => h (σ1.set i none) H1 A1 r (x2.trans y) (re1.hole i none), fun e s1 h σ1 H1 A1 r y re1 => h (σ1.set i none) H1 A1 r (x2.trans y) (re1.hole i none)⟩
  · intro a b env s l h
    refine hW _ _ _ _ _ (fun x fs e s' ⟨k, h1, h2, h3⟩ => ⟨k, h1, fun z => ⟨(h2 z).1, (hsu 0 []).mono _ _ _ _ (goE_le l) (h2 z).2⟩, h3⟩) ((hbody [] (fun _ _ => True) (fun _ _ _ _ => True) (fun _ _ _ => trivial) (fun _ _ _ _ => True) (fun _ _ => trivial) _ (fun _ _ _ _ _ _ _ _ _ _ _ _ _ _ => trivial)).mono a b env s l h)
end
theorem wms_if {c : TD} {ta tb : WXD → SD} (mc : Mono c) (ha : WMS ta) (hb : WMS tb) : WMS (fun W => dIfS c (ta W) (tb W)) := fun W W' E env s f q => mc _ _ _ _ (fun k s1 q => by
  cases k with
  | true => rw [if_pos rfl] at q ⊢; exact ha W W' _ _ _ f q
  | false => rw [if_neg Bool.false_ne_true] at q ⊢; exact hb W W' _ _ _ f q) q
theorem wms_drop {t : WXD → ED} (h : WM t) : WMS (fun W => dDrop (t W)) := fun W W' E env s f q => h W W' _ _ _ f q
end Dl
namespace Dl
open PySem PySem.Spec PyProof.Rows L2
structure IsoX (K : PySem.W.Frag) (cv : Value) (tab : Str → Option Bool) : Prop where
  b : ∀ t ∈ ["NoneType", "bool", "int", "str", "tuple", "list", "dict"], PySem.W.kitOne K (.type t) cv = some false
  x : ∀ y r, tab y = some r → ∃ D : Addr, PySem.W.nsIn K mainGlobals y = some (some (.ref D)) ∧ ExcC K D ∧ PySem.W.kitOne K (.ref D) cv = some r
def isoF (tab : Str → Option Bool) (s : Sto) (x : D) : Option D := match x with
  | .exc y ks _ => if ks = [] ∨ ks = [("" : Str)] then (tab y).map .bl else none
  | x => (tyName s x).map fun _ => .bl false
def rIsX (K : PySem.W.Frag) : List V → Hp → VK → Prop := fun xs H Q => ∃ (a D : Addr) (c : V) (cv : Value) (b : Bool) (φ : Heap → Prop), xs = [.ref a, c] ∧ ClsV c cv ∧ H a = some (.ext φ) ∧
  (∀ h, φ h → ∃ (oe : Obj) (vs : Array Value), h.get? a = some oe ∧ Zc (.ref D) none oe ∧ oe.data = .fields vs) ∧ ExcC K D ∧ PySem.W.kitOne K (.ref D) cv = some b ∧ Q (.bl b) H
theorem call_isX {X : Cx} : CallR X (.builtin "isinstance") (rIsX X.K) := by
  intro pins s σ H xs us Q I r h
  obtain ⟨a, D, c, cv, b, φ, rfl, hcv, ha, hφ, C, e, q⟩ := h
  obtain ⟨u1, u2, rfl, r1, r2⟩ := vals2 r
  have ec := hcv.eq r2
  subst ec
  cases (show u1 = Value.ref a from r1)
  obtain ⟨h1, _⟩ := (show ObjOk X.prog X.w H s.heap a (.ext φ) from I.hok a _ ha)
  obtain ⟨oe, vs, hget, hz, hv⟩ := hφ _ h1
  have J : PySem.W.InstAt s.heap a oe D none := by
    obtain ⟨oc, od, oda, osl⟩ := oe
    obtain ⟨h1, h2⟩ := hz
    dsimp only at h1 h2 hv
    subst h1 h2 hv
    exact ⟨hget, rfl, rfl, trivial⟩
  exact PySem.W.kia_one (PySem.W.handS_kitx_exc C.hg C.hk C.hs C.hd C.ha C.hn C.ht C.hm) I.kIn J e (fun z => nomatch z) fun tk => ⟨.bl b, H, I.tok tk, rfl, q⟩
theorem iso_rd {X : DX} {tab : Str → Option Bool} {cv : Value} {c : V} (B : IsoX X.K cv tab) (hc : ClsV c cv) {te : ED} {σ : L2.St} {H : Hp} {Q : VK} (m : Mono te) (h : rdE X.kk (dUn (isoF tab) te) σ H Q) :
    rdE X.kk te σ H fun v H1 => (rIsi X.K [v, c] H1 Q ∨ rIsX X.K [v, c] H1 Q) := by
  obtain ⟨env, s, A, B0, w, h⟩ := h
  refine ⟨env, s, A, B0, w, m _ _ _ _ (fun x s1 ⟨z, ez, q⟩ v H1 A1 r e1 dv => ?_) h⟩
  have done : ∀ {d : D}, Q = Q → True := fun _ => trivial
  unfold isoF at ez
  split at ez
  · rename_i y ks xs
    split at ez
    · rename_i hk
      obtain ⟨b, hb, rfl⟩ := Option.map_eq_some_iff.mp ez
      obtain ⟨D, hn, C, hx⟩ := B.x _ _ hb
      cases dv with
      | exc h1 h2 =>
        obtain ⟨cls, hcl, hh⟩ := h1
        rw [hn] at hcl; cases hcl
        refine .inr ?_
        rcases hh with ⟨f1, _, _⟩ | ⟨d, f1, f2, f3, f4, f5⟩ | ⟨t, z, f1, f2, f3, f4⟩
        · exact ⟨_, D, c, cv, b, _, rfl, hc, (fz_of f1).1, fun h ⟨oe, vs, a1, a2, a3⟩ => ⟨oe, vs, a1, a2.zc, a3⟩, C, hx, q _ _ _ r e1 (.bl _)⟩
        · exact absurd hk (fun z => z.elim f4 f5)
        · exact ⟨_, D, c, cv, b, _, rfl, hc, (fz_of f1).1, fun h ⟨oe, vs, a1, a2, a3, _⟩ => ⟨oe, vs, a1, a2, a3⟩, C, hx, q _ _ _ r e1 (.bl _)⟩
    · cases ez
  · obtain ⟨n, hn, rfl⟩ := Option.map_eq_some_iff.mp ez
    exact .inl ⟨v, c, .type n, cv, false, rfl, hc, tyx_of r dv hn, B.b n (tyName_mem hn), q _ _ _ r e1 (.bl _)⟩
section
variable {X : DX} {pos p pT : Pos} {e : Expr} {te : ED} {c : Str} {tab : Str → Option Bool}
theorem pd_iso {C : Addr} (hg : Gl X "isinstance") (hm : X.mg "isinstance" = none) (hgc : Gl X c) (hmc : X.mg c = some (.ref C)) (B : IsoX X.K (.ref C) tab) (he : PD X e te) (hd : (c == ("__debug__" : Str)) = false := by decide)
    (h1 : starEach [e, .Name c pT] X.env = (false, eval e X.env) :: starEach [.Name c pT] X.env := by rfl) (h2 : starEach [.Name c pT] X.env = (false, eval (.Name c pT) X.env) :: starEach [] X.env := by rfl) (hpl : (backTo pos (starEach [.Name c pT] X.env)).any (·.1) = false := by rfl) :
    PD X (.Call (.Name "isinstance" p) [e, .Name c pT] [] pos) (dUn (isoF tab) te) := by
  have hty : PE X (.Name c pT) (tC (.ref C)) := pe_glob (v := .ref C) hgc hmc rfl hd
  refine ⟨pe_imp (pe_callB (call_isi.or call_isX) hg hm (show bootBuiltins "isinstance" = some (.builtin "isinstance") by decide +kernel) (pa_cons he.pe (pa_cons hty pa_nil h2) h1) (he := h1) (hpl := hpl)) fun σ H Q h => ?_, mono_un he.mono⟩
  exact iso_rd B (.own C) he.mono h
theorem pd_isoT {n : String} (hg : Gl X "isinstance") (hm : X.mg "isinstance" = none) (hgc : Gl X c) (hmc : X.mg c = none) (hv : bootBuiltins c = some (.type n)) (B : IsoX X.K (.type n) tab) (he : PD X e te) (hn : c ≠ "__name__" := by decide) (hd : (c == ("__debug__" : Str)) = false := by decide)
    (h1 : starEach [e, .Name c pT] X.env = (false, eval e X.env) :: starEach [.Name c pT] X.env := by rfl) (h2 : starEach [.Name c pT] X.env = (false, eval (.Name c pT) X.env) :: starEach [] X.env := by rfl) (hpl : (backTo pos (starEach [.Name c pT] X.env)).any (·.1) = false := by rfl) :
    PD X (.Call (.Name "isinstance" p) [e, .Name c pT] [] pos) (dUn (isoF tab) te) := by
  have hty : PE X (.Name c pT) (tC (.ty n)) := pe_bltn hgc hmc hv (show RelV (.ty n) (Value.type n) from rfl) hn hd
  refine ⟨pe_imp (pe_callB (call_isi.or call_isX) hg hm (show bootBuiltins "isinstance" = some (.builtin "isinstance") by decide +kernel) (pa_cons he.pe (pa_cons hty pa_nil h2) h1) (he := h1) (hpl := hpl)) fun σ H Q h => ?_, mono_un he.mono⟩
  exact iso_rd B (.ty n) he.mono h
end
end Dl
namespace Dl
open PySem PySem.Spec PyProof.Rows L2
theorem sub_tys {K : PySem.W.Frag} {C : Addr} : ∀ t ∈ ["NoneType", "bool", "int", "str", "tuple", "list", "dict"], PySem.W.subIn K (.type t) (.ref C) = some false := by
  intro t ht
  have : t = "NoneType" ∨ t = "bool" ∨ t = "int" ∨ t = "str" ∨ t = "tuple" ∨ t = "list" ∨ t = "dict" := by simpa using ht
  rcases this with rfl | rfl | rfl | rfl | rfl | rfl | rfl <;> kernel_rfl
theorem isoX_own {K : PySem.W.Frag} {C : Addr} {tab : Str → Option Bool} (ht : PySem.W.typeIn K (.ref C) = some (.type "type")) (hd : PySem.W.hasDictIn K C = true)
    (x : ∀ y r, tab y = some r → ∃ D : Addr, PySem.W.nsIn K mainGlobals y = some (some (.ref D)) ∧ ExcC K D ∧ PySem.W.kitOne K (.ref D) (.ref C) = some r) : IsoX K (.ref C) tab := by
  refine ⟨fun t h => ?_, x⟩
  obtain ⟨cd, hc, _⟩ := PySem.W.any_some hd
  have e2 : ((PySem.W.clsIn K C).isSome && PySem.W.typeIn K (.ref C) == some (.type "type")) = true := by rw [hc, ht] <;> rfl
  show (if ((Value.type t) == Value.ref C) = true then some true else PySem.W.kitCls K (.type t) (.ref C)) = some false
  rw [if_neg (by intro z; cases (beq_iff_eq.mp z))]
  show (if ((PySem.W.clsIn K C).isSome && PySem.W.typeIn K (.ref C) == some (.type "type")) = true then PySem.W.subIn K (.type t) (.ref C) else none) = some false
  rw [if_pos e2]
  exact sub_tys t h
theorem isoX_VE {K : PySem.W.Frag} {tab : Str → Option Bool} (x : ∀ y r, tab y = some r → ∃ D : Addr, PySem.W.nsIn K mainGlobals y = some (some (.ref D)) ∧ ExcC K D ∧ PySem.W.kitOne K (.ref D) (.type "ValueError") = some r) : IsoX K (.type "ValueError") tab := by
  refine ⟨fun t h => ?_, x⟩
  have : t = "NoneType" ∨ t = "bool" ∨ t = "int" ∨ t = "str" ∨ t = "tuple" ∨ t = "list" ∨ t = "dict" := by simpa using h
  rcases this with rfl | rfl | rfl | rfl | rfl | rfl | rfl <;> kernel_rfl
end Dl
namespace Dl
open PySem PySem.Spec PyProof.Rows L2
abbrev DD (P : Program) (w : World) (K : PySem.W.Frag) (mg : Str → Option Value) (base : Heap) (N : List Str) (q : Str) (st : Stmt) (k : Nat) (b : SD) : Prop :=
  ∀ (f : Addr) (cdv : Value) (A : Around) (outer : List PySem.Env) (s : Shared) (H : Hp) (E : XK), RoomG k (A.deeper (envOfC q (defScope st) s.heap.objs.size f cdv)) → PSsD (dx0 (cxOf CX0 P w K mg base N q (defScope st) f cdv A outer s H E).nox) (defBody st) b
abbrev DDX (P : Program) (w : World) (K : PySem.W.Frag) (mg : Str → Option Value) (base : Heap) (N : List Str) (q : Str) (st : Stmt) (k : Nat) (b : WXD → SD) : Prop :=
  ∀ (f : Addr) (cdv : Value) (A : Around) (outer : List PySem.Env) (s : Shared) (H : Hp) (E : XK) (B0 A0 : List Addr) (s0 : Sto), RoomG k (A.deeper (envOfC q (defScope st) s.heap.objs.size f cdv)) →
    PSsD (dxR P w K mg base N q (defScope st) f cdv A outer s H E rfl B0 A0 s0) (defBody st) (b fun y fs _ s' => PostX K mg B0 H A0 s0 E y fs s')
theorem scT {N P : List Str} {sc : Scope} (h1 : sc.kind = .function := by rfl) (h2 : sc.isCoroutine = false := by rfl) (h3 : sc.isGenerator = false := by rfl) (h4 : N.Nodup := by decide +kernel) (h5 : N.take P.length = P := by rfl) (h6 : ∀ x ∈ P, sc.names.lookup x = some .local ∨ sc.names.lookup x = some .cell := by decide +kernel) (h7 : ∀ y ∈ sc.names, y.2 ≠ .free := by decide +kernel) : FnScope N P sc := ⟨h1, h2, h3, h4, h5, h6, h7⟩
theorem pgN {X : Cx} (i : Nat) {x : Str} {pos : Pos} (hN : X.N.Nodup) (hi : X.N[i]? = some x := by rfl) (hx : Loc X.env.scope x := by first | exact Or.inl rfl | exact Or.inr rfl) (hf : X.fn x = true ∨ X.env.scope.names.lookup x = some .local := by first | exact .inl rfl | exact .inr rfl | assumption) : PG X (.Name x pos) (gName i) := pg_name hN hi hx hf
theorem psS {X : DX} (i : Nat) {x : Str} {e : Expr} {te : ED} {pos pos' : Pos} (hN : X.N.Nodup) (he : PD X e te) (hi : X.N[i]? = some x := by rfl) (hx : Loc X.env.scope x := by first | exact Or.inl rfl | exact Or.inr rfl) (hs : swapsWith e (some (.Name x pos')) pos.line X.env = pure false := by rfl) (hf : X.fn x = true ∨ X.env.scope.names.lookup x = some .local := by first | exact .inl rfl | exact .inr rfl | assumption) :
    PSD X (.Assign [.Name x pos'] e pos) (dAsg te (gN i)) := psd_set hN hi hx he hs hf
theorem pdI {X : DX} {a b : Expr} {ta tb : ED} {pos : Pos} (ha : PD X a ta) (hb : PD X b tb) (hs : PlainIx b := by exact fun _ _ => by with_unfolding_all rfl) : PD X (.Subscript a b pos) (dBin (oF idxF) ta tb) := pd_ix ha hb hs
theorem pdB {X : DX} {x : Str} {id : String} {f : Sto → List D → Option D} {e : Expr} {es : List Expr} {t : AD} {p pos : Pos} (hc : CallX X (.builtin id) f) (hm : X.mg x = none) (ha : PAD X (e :: es) t) (hg : Gl X x := by rfl) (hv : bootBuiltins x = some (.builtin id) := by decide +kernel) (hn : x ≠ "__name__" := by decide) (hdb : (x == ("__debug__" : Str)) = false := by decide)
    (he : starEach (e :: es) X.env = (false, eval e X.env) :: starEach es X.env := by rfl) (hpl : (backTo pos (starEach es X.env)).any (·.1) = false := by rfl) : PD X (.Call (.Name x p) (e :: es) [] pos) (dCB f t) := pd_callB hc hg hm hv ha hn hdb he hpl
theorem pdK {X : DX} {x : Str} {e : Expr} {es : List Expr} {t : AD} {p pos : Pos} {k j : Nat} {ps : List Str} {sp : SpD} (c : Kn X.prog X.w X.K X.mg X.base x k ps sp) (hr : RoomG j X.A) (ha : PAD X (e :: es) t) (hk : k ≤ j := by decide) (hg : Gl X x := by rfl)
    (h1 : starEach (e :: es) X.env = (false, eval e X.env) :: starEach es X.env := by rfl) (hpl : (backTo pos (starEach es X.env)).any (·.1) = false := by rfl) (hdb : (x == ("__debug__" : Str)) = false := by decide) : PD X (.Call (.Name x p) (e :: es) [] pos) (dCall sp [] t) := pd_kn c (hr.mono hk) hg ha h1 hpl hdb
theorem pdKX {X : DX} {x : Str} {e : Expr} {es : List Expr} {t : AD} {p pos : Pos} {k j : Nat} {ps : List Str} {sp : SpD} (c : KnX X.prog X.w X.K X.mg X.base x k ps sp) (hr : RoomG j X.A) (ha : PAD X (e :: es) t) (hk : k ≤ j := by decide) (hg : Gl X x := by rfl)
    (h1 : starEach (e :: es) X.env = (false, eval e X.env) :: starEach es X.env := by rfl) (hpl : (backTo pos (starEach es X.env)).any (·.1) = false := by rfl) (hdb : (x == ("__debug__" : Str)) = false := by decide) : PD X (.Call (.Name x p) (e :: es) [] pos) (dCallX X.WD sp [] t) := pd_knX c (hr.mono hk) hg ha h1 hpl hdb
abbrev HF (K : PySem.W.Frag) (x : Str) (st : Stmt) : Prop := ∃ (f : Addr) (od an : Option Addr) (sl : Array (Option Value)) (oc kV dc pm cd ct : Value),
  PySem.W.nsIn K mainGlobals x = some (some (.ref f)) ∧ K.lookup f = some ⟨oc, od, .func (PySem.W.fnOf x x (defArgs st) (defBody st) (defScope st) .none kV dc pm an cd ct), sl⟩ ∧ PySem.W.codeIn K cd x = true ∧ PySem.W.keepIn K (.ref f) = true
theorem HF.at {K : PySem.W.Frag} {h : Heap} {mg : Str → Option Value} {x : Str} {st : Stmt} {ps : List Str} (F : HF K x st) (X : K.In h) (G : h.Ns mainGlobals mg)
    (b : ∀ (kV doc pm : Value) (an : Option Addr) (cdv ct : Value) (us : List Value), us.length = ps.length → bindArgs (PySem.W.fnOf x x (defArgs st) (defBody st) (defScope st) .none kV doc pm an cdv ct) ⟨us, []⟩ = pure (ps.zip us)) : At K mg x st ps := by
  obtain ⟨f, od, an, sl, oc, kV, dc, pm, cd, ct, a, l, q, k⟩ := F
  have F := fun_mk (st := st) l q k
  exact ⟨_, _, F, PySem.W.mg_of X G a, F.binds b⟩
abbrev HX (K : PySem.W.Frag) (C : Addr) : Prop := PySem.W.keepIn K (.ref C) = true ∧ PySem.W.excIn K C [.type "ValueError", .type "Exception", .type "BaseException", .type "object"] "ValueError.__new__" = true ∧ PySem.W.subIn K (.ref C) (.type "BaseException") = some true ∧ PySem.W.typeIn K (.ref C) = some (.type "type")
theorem HX.own {K : PySem.W.Frag} {h : Heap} {mg : Str → Option Value} {x : Str} {C : Addr} (q : HX K C) (X : K.In h) (G : h.Ns mainGlobals mg) (y : PySem.W.nsIn K mainGlobals x = some (some (.ref C))) : ∃ C, OwnX K mg x C := ⟨C, PySem.W.mg_of X G y, q.1, q.2.1, q.2.2.1, q.2.2.2⟩
def tabZ : List Str → List Bool → Str → Option Bool
  | y :: ys, b :: bs, x => if x = y then some b else tabZ ys bs x
  | _, _, _ => none
inductive IXs (K : PySem.W.Frag) : List Str → List Addr → Prop
  | nil : IXs K [] []
  | cons {y : Str} {D : Addr} {ys : List Str} {ds : List Addr} (a : PySem.W.nsIn K mainGlobals y = some (some (.ref D))) (e : ExcC K D) (r : IXs K ys ds) : IXs K (y :: ys) (D :: ds)
inductive NXs (K : PySem.W.Frag) : List Str → List Addr → Prop
  | nil : NXs K [] []
  | cons {y : Str} {D : Addr} {ys : List Str} {ds : List Addr} (a : PySem.W.nsIn K mainGlobals y = some (some (.ref D))) (r : NXs K ys ds) : NXs K (y :: ys) (D :: ds)
inductive KOs (K : PySem.W.Frag) (c : Value) : List Addr → List Bool → Prop
  | nil : KOs K c [] []
  | cons {D : Addr} {b : Bool} {ds : List Addr} {bs : List Bool} (a : PySem.W.kitOne K (.ref D) c = some b) (r : KOs K c ds bs) : KOs K c (D :: ds) (b :: bs)
inductive EOs (K : PySem.W.Frag) (c : Value) : List Addr → List Bool → Prop
  | nil : EOs K c [] []
  | cons {D : Addr} {b : Bool} {ds : List Addr} {bs : List Bool} (a : PySem.W.exmOne K (.ref D) c = some b) (r : EOs K c ds bs) : EOs K c (D :: ds) (b :: bs)
theorem iso_all {K : PySem.W.Frag} {c : Value} {ys : List Str} {ds : List Addr} {bs : List Bool} (h : IXs K ys ds) (k : KOs K c ds bs) : ∀ y r, tabZ ys bs y = some r → ∃ D : Addr, PySem.W.nsIn K mainGlobals y = some (some (.ref D)) ∧ ExcC K D ∧ PySem.W.kitOne K (.ref D) c = some r := by
  induction h generalizing bs with
  | nil => intro y r h; cases h
  | cons a e _ ih =>
    cases k with
    | cons b k' =>
      intro y r h
      unfold tabZ at h
      split at h
      · rename_i hy; subst hy; cases h; exact ⟨_, a, e, b⟩
      · exact ih k' y r h
theorem hit_all {K : PySem.W.Frag} {h₀ : Heap} {mg : Str → Option Value} (X : K.In h₀) (G : h₀.Ns mainGlobals mg) {x : Str} {c : Value} {ys : List Str} {ds : List Addr} {bs : List Bool} (g : mg x = some c) (h : NXs K ys ds) (k : EOs K c ds bs) : HitX K mg x c (tabZ ys bs) := by
  refine ⟨g, ?_⟩
  clear g
  induction h generalizing bs with
  | nil => intro y r cls h; cases h
  | cons a _ ih =>
    cases k with
    | cons b k' =>
      intro y r cls h hm
      unfold tabZ at h
      split at h
      · rename_i hy; subst hy; cases h
        rw [PySem.W.mg_of X G a] at hm; cases hm
        exact ⟨a, b⟩
      · exact ih k' y r cls h hm
end Dl
namespace Qk24
open PySem PySem.Spec PyProof.Rows L2 Dl
def top (i : Nat) : Stmt := PySem.Challenge.pw_asshown_k24_uses_refused.main.body.getD i (.Pass ⟨0, 0, 0, 0⟩)
abbrev s__law_pot : Stmt := top 35
abbrev s__law_dip : Stmt := top 36
abbrev s__law_cost : Stmt := top 38
abbrev s__law_text : Stmt := top 37
abbrev s__law_book : Stmt := top 39
abbrev s__law_reading : Stmt := top 40
abbrev s__law_uses : Stmt := top 41
abbrev s__law_odd : Stmt := top 42
abbrev s__law_bent_end : Stmt := top 43
abbrev s__law_bent : Stmt := top 44
abbrev s_is_small : Stmt := top 18
abbrev s_is_reading : Stmt := top 19
abbrev s_is_writing : Stmt := top 20
abbrev s_is_count : Stmt := top 17
abbrev s_is_word : Stmt := top 21
abbrev s_are_joins : Stmt := top 22
abbrev s_is_book : Stmt := top 23
abbrev s__law_signs : Stmt := top 46
abbrev s__law_are_uses : Stmt := top 50
abbrev s__law_due : Stmt := top 51
abbrev s_is_pair : Stmt := top 28
abbrev s_need_uses : Stmt := top 29
abbrev s_times_of : Stmt := top 30
abbrev s_counted : Stmt := top 31
abbrev s_need_book : Stmt := top 24
abbrev s_worn : Stmt := top 32
abbrev s_need_reading : Stmt := top 25
abbrev s_words_of : Stmt := top 26
abbrev s_candidates : Stmt := top 33
abbrev s__law_marks : Stmt := top 45
abbrev s__law_asked : Stmt := top 49
abbrev s__law_right : Stmt := top 52
abbrev s_law : Stmt := top 53
abbrev AllMk : Prop := ∀ {P : Program} {w : World} {K : PySem.W.Frag} {h : Heap} {mg : Str → Option Value} {fa : Addr} (X : K.In h) (G : h.Ns mainGlobals mg) (hfa : mg "law" = some (.ref fa))
    {f28 : Addr} {od28 an28 : Option Addr} {sl28 : Array (Option Value)} {oc28 kV28 dc28 pm28 cd28 ct28 : Value}
    {f29 : Addr} {od29 an29 : Option Addr} {sl29 : Array (Option Value)} {oc29 kV29 dc29 pm29 cd29 ct29 : Value}
    {f33 : Addr} {od33 an33 : Option Addr} {sl33 : Array (Option Value)} {oc33 kV33 dc33 pm33 cd33 ct33 : Value}
    {t_LARGE : Tok}
    {t_LONGEST : Tok}
    {t_MOST : Tok}
    {t_SMALL : Tok}
    {t_WEAR : Tok}
    {t_WORN : Tok}
    {C_NoBook : Addr}
    {C_NoNumber : Addr}
    {C_NoPlace : Addr}
    {C_NoReading : Addr}
    {C_NoRow : Addr}
    {C_NoState : Addr}
    {C_NoWord : Addr}
    {C_PenError : Addr}
    {C_Stuck : Addr}
    (h1 : HF K "_law_pot" s__law_pot)
    (h2 : HF K "_law_dip" s__law_dip)
    (h3 : HF K "_law_cost" s__law_cost)
    (h4 : HF K "_law_text" s__law_text)
    (h5 : HF K "_law_book" s__law_book)
    (h6 : HF K "_law_reading" s__law_reading)
    (h7 : HF K "_law_uses" s__law_uses)
    (h8 : HF K "_law_odd" s__law_odd)
    (h9 : HF K "_law_bent_end" s__law_bent_end)
    (h10 : HF K "_law_bent" s__law_bent)
    (h11 : HF K "is_small" s_is_small)
    (h12 : HF K "is_reading" s_is_reading)
    (h13 : HF K "is_writing" s_is_writing)
    (h14 : HF K "is_count" s_is_count)
    (h15 : HF K "is_word" s_is_word)
    (h16 : HF K "are_joins" s_are_joins)
    (h17 : HF K "is_book" s_is_book)
    (h18 : HF K "_law_signs" s__law_signs)
    (h19 : HF K "_law_are_uses" s__law_are_uses)
    (h20 : HF K "_law_due" s__law_due)
    (h21 : HF K "is_pair" s_is_pair)
    (h22 : HF K "need_uses" s_need_uses)
    (h23 : HF K "times_of" s_times_of)
    (h24 : HF K "counted" s_counted)
    (h25 : HF K "need_book" s_need_book)
    (h26 : HF K "worn" s_worn)
    (h27 : HF K "need_reading" s_need_reading)
    (a28 : PySem.W.nsIn K mainGlobals "words_of" = some (some (.ref f28))) (l28 : K.lookup f28 = some ⟨oc28, od28, .func (PySem.W.fnOf "words_of" "words_of" (defArgs s_words_of) (defBody s_words_of) (defScope s_words_of) .none kV28 dc28 pm28 an28 cd28 ct28), sl28⟩) (q28 : PySem.W.codeIn K cd28 "words_of" = true) (k28 : PySem.W.keepIn K (.ref f28) = true) (m28 : lamOk K "words_of" = true)
    (a29 : PySem.W.nsIn K mainGlobals "candidates" = some (some (.ref f29))) (l29 : K.lookup f29 = some ⟨oc29, od29, .func (PySem.W.fnOf "candidates" "candidates" (defArgs s_candidates) (defBody s_candidates) (defScope s_candidates) .none kV29 dc29 pm29 an29 cd29 ct29), sl29⟩) (q29 : PySem.W.codeIn K cd29 "candidates" = true) (k29 : PySem.W.keepIn K (.ref f29) = true) (m29 : lamOk K "candidates" = true)
    (h30 : HF K "_law_marks" s__law_marks)
    (h31 : HF K "_law_asked" s__law_asked)
    (h32 : HF K "_law_right" s__law_right)
    (a33 : PySem.W.nsIn K mainGlobals "law" = some (some (.ref f33))) (l33 : K.lookup f33 = some ⟨oc33, od33, .func (PySem.W.fnOf "law" "law" (defArgs s_law) (defBody s_law) (defScope s_law) .none kV33 dc33 pm33 an33 cd33 ct33), sl33⟩) (q33 : PySem.W.codeIn K cd33 "law" = true) (k33 : PySem.W.keepIn K (.ref f33) = true)
    (z_ValueError : PySem.W.nsIn K mainGlobals "ValueError" = some none)
    (z_abs : PySem.W.nsIn K mainGlobals "abs" = some none)
    (z_all : PySem.W.nsIn K mainGlobals "all" = some none)
    (z_bool : PySem.W.nsIn K mainGlobals "bool" = some none)
    (z_int : PySem.W.nsIn K mainGlobals "int" = some none)
    (z_isinstance : PySem.W.nsIn K mainGlobals "isinstance" = some none)
    (z_len : PySem.W.nsIn K mainGlobals "len" = some none)
    (z_list : PySem.W.nsIn K mainGlobals "list" = some none)
    (z_max : PySem.W.nsIn K mainGlobals "max" = some none)
    (z_min : PySem.W.nsIn K mainGlobals "min" = some none)
    (z_range : PySem.W.nsIn K mainGlobals "range" = some none)
    (z_repr : PySem.W.nsIn K mainGlobals "repr" = some none)
    (z_sorted : PySem.W.nsIn K mainGlobals "sorted" = some none)
    (z_str : PySem.W.nsIn K mainGlobals "str" = some none)
    (z_tuple : PySem.W.nsIn K mainGlobals "tuple" = some none)
    (y_LARGE : PySem.W.nsIn K mainGlobals "LARGE" = some (some (.str "ABCDEFGHIJKLMNOPQRSTUVWXYZ" t_LARGE)))
    (y_LONGEST : PySem.W.nsIn K mainGlobals "LONGEST" = some (some (.int 12 t_LONGEST)))
    (y_MOST : PySem.W.nsIn K mainGlobals "MOST" = some (some (.int 40 t_MOST)))
    (y_SMALL : PySem.W.nsIn K mainGlobals "SMALL" = some (some (.str "abcdefghijklmnopqrstuvwxyz" t_SMALL)))
    (y_WEAR : PySem.W.nsIn K mainGlobals "WEAR" = some (some (.int 10 t_WEAR)))
    (y_WORN : PySem.W.nsIn K mainGlobals "WORN" = some (some (.int 9 t_WORN)))
    (y_NoBook : PySem.W.nsIn K mainGlobals "NoBook" = some (some (.ref C_NoBook)))
    (y_NoNumber : PySem.W.nsIn K mainGlobals "NoNumber" = some (some (.ref C_NoNumber)))
    (y_NoPlace : PySem.W.nsIn K mainGlobals "NoPlace" = some (some (.ref C_NoPlace)))
    (y_NoReading : PySem.W.nsIn K mainGlobals "NoReading" = some (some (.ref C_NoReading)))
    (y_NoRow : PySem.W.nsIn K mainGlobals "NoRow" = some (some (.ref C_NoRow)))
    (y_NoState : PySem.W.nsIn K mainGlobals "NoState" = some (some (.ref C_NoState)))
    (y_NoWord : PySem.W.nsIn K mainGlobals "NoWord" = some (some (.ref C_NoWord)))
    (y_PenError : PySem.W.nsIn K mainGlobals "PenError" = some (some (.ref C_PenError)))
    (y_Stuck : PySem.W.nsIn K mainGlobals "Stuck" = some (some (.ref C_Stuck)))
    (q_NoBook : HX K C_NoBook)
    (q_NoReading : HX K C_NoReading)
    (q_NoWord : HX K C_NoWord)
    (vs_NoWord : PySem.W.findIn K (.ref C_NoWord) "__str__" = some (some (.builtin "BaseException.__str__")))
    (ex_NoBook : ExcC K C_NoBook)
    (ex_NoReading : ExcC K C_NoReading)
    (ex_NoWord : ExcC K C_NoWord)
    (g1_NoBook : PySem.W.typeIn K (.ref C_NoBook) = some (.type "type"))
    (g2_NoBook : PySem.W.hasDictIn K C_NoBook = true)
    (v_NoBook : KOs K (.ref C_NoBook) [C_NoBook, C_NoReading, C_NoWord] [true, false, false])
    (g1_NoNumber : PySem.W.typeIn K (.ref C_NoNumber) = some (.type "type"))
    (g2_NoNumber : PySem.W.hasDictIn K C_NoNumber = true)
    (v_NoNumber : KOs K (.ref C_NoNumber) [C_NoBook, C_NoReading, C_NoWord] [false, false, false])
    (g1_NoPlace : PySem.W.typeIn K (.ref C_NoPlace) = some (.type "type"))
    (g2_NoPlace : PySem.W.hasDictIn K C_NoPlace = true)
    (v_NoPlace : KOs K (.ref C_NoPlace) [C_NoBook, C_NoReading, C_NoWord] [false, false, false])
    (g1_NoReading : PySem.W.typeIn K (.ref C_NoReading) = some (.type "type"))
    (g2_NoReading : PySem.W.hasDictIn K C_NoReading = true)
    (v_NoReading : KOs K (.ref C_NoReading) [C_NoBook, C_NoReading, C_NoWord] [false, true, false])
    (g1_NoRow : PySem.W.typeIn K (.ref C_NoRow) = some (.type "type"))
    (g2_NoRow : PySem.W.hasDictIn K C_NoRow = true)
    (v_NoRow : KOs K (.ref C_NoRow) [C_NoBook, C_NoReading, C_NoWord] [false, false, false])
    (g1_NoState : PySem.W.typeIn K (.ref C_NoState) = some (.type "type"))
    (g2_NoState : PySem.W.hasDictIn K C_NoState = true)
    (v_NoState : KOs K (.ref C_NoState) [C_NoBook, C_NoReading, C_NoWord] [false, false, false])
    (g1_NoWord : PySem.W.typeIn K (.ref C_NoWord) = some (.type "type"))
    (g2_NoWord : PySem.W.hasDictIn K C_NoWord = true)
    (v_NoWord : KOs K (.ref C_NoWord) [C_NoBook, C_NoReading, C_NoWord] [false, false, true])
    (g1_PenError : PySem.W.typeIn K (.ref C_PenError) = some (.type "type"))
    (g2_PenError : PySem.W.hasDictIn K C_PenError = true)
    (v_PenError : KOs K (.ref C_PenError) [C_NoBook, C_NoReading, C_NoWord] [true, true, true])
    (g1_Stuck : PySem.W.typeIn K (.ref C_Stuck) = some (.type "type"))
    (g2_Stuck : PySem.W.hasDictIn K C_Stuck = true)
    (v_Stuck : KOs K (.ref C_Stuck) [C_NoBook, C_NoReading, C_NoWord] [false, false, false])
    (v_ValueError : KOs K (.type "ValueError") [C_NoBook, C_NoReading, C_NoWord] [true, true, true])
    (w_PenError : EOs K (.ref C_PenError) [C_NoBook, C_NoReading, C_NoWord] [true, true, true]),
    ∃ fd : FuncData, (∀ (s : Shared) (v : Value), BindsTo s fd ⟨[v], []⟩ [("script", v)]) ∧ ∀ base : Heap, K.In base → base.Ns mainGlobals mg → TabsB K mg base → FnD P w K mg base CX0 10 fa fd ["script"] spLaw
end Qk24
open PySem PySem.W PyProof.Rows in
set_option maxRecDepth 100000 in
set_option maxHeartbeats 0 in
theorem Qk24.fin (am : Qk24.AllMk) : PySem.Challenge.rw_asshown_k24_uses_refused.Holds := by
  w_on; o_law
  refine holds_open (r := OpenLaw.row PySem.Challenge.rw_asshown_k24_uses_refused) (q := Qk24.hdq) (loose := Qk24.hdn) (Xt := fun s => xlAt Qk24.hdq [] s && recOk (RowW.records Qk24.hdR.toRowW) s) (XP := XL Qk24.hdq []) (Yf := Hook.obs (kHook Qk24.heads.heap_39 Qk24.adrs Qk24.ek)) (Ya := Hook.val (kHook Qk24.heads.heap_39 Qk24.adrs Qk24.ek)) (YP := Hook.says (kHook Qk24.heads.heap_39 Qk24.adrs Qk24.ek)) (N := 41000) (HeadRun.left_oneK (M := 20000) (by kernel_rfl) (by rfl) (fun s => by kernel_rfl) (by rfl) Qk24.run) (Hook.of (kHook Qk24.heads.heap_39 Qk24.adrs Qk24.ek)) (Hook.keeps (kHook Qk24.heads.heap_39 Qk24.adrs Qk24.ek)) (fun s e => xl_of s (Bool.and_eq_true_iff.mp e).1) XL.keeps (by rfl) (by rfl) (by rfl) (fun s e => recFacts_of (Bool.and_eq_true_iff.mp e).2) (by rfl) (by first | assumption | decide +kernel) (by decide +kernel) ⟨rfl, rfl, rfl, rfl, rfl, by decide +kernel⟩ ?hw ?hc
  case hw => w_witness2
  k_fill
  refine Dl.law_walk (l := PySem.Challenge.rw_asshown_k24_uses_refused) (k := 10) (x := "script") rfl rfl ⟨rfl, by decide, by decide⟩ (fun w h Y => by first | exact PySem.W.kIn_of Y | exact PySem.W.km_in_of Y) (fun w => by kernel_rfl) (fun w x hx => ?D) ?F
  case D =>
    simp only [Dl.lamNames, List.mem_cons, List.not_mem_nil, or_false] at hx
    rcases hx with rfl | rfl | rfl
    all_goals first
      | exact fun _ _ => ⟨_, rfl⟩
      | exact fun cp h => nomatch (show (none : Option (Addr × Addr)) = some cp from (by kernel_rfl : none = _).trans h)
  case F =>
    intro w mg fa h KX G hmg
    refine' am KX G hmg ?h1 ?h2 ?h3 ?h4 ?h5 ?h6 ?h7 ?h8 ?h9 ?h10 ?h11 ?h12 ?h13 ?h14 ?h15 ?h16 ?h17 ?h18 ?h19 ?h20 ?h21 ?h22 ?h23 ?h24 ?h25 ?h26 ?h27 ?a28 ?l28 ?q28 ?k28 ?m28 ?a29 ?l29 ?q29 ?k29 ?m29 ?h30 ?h31 ?h32 ?a33 ?l33 ?q33 ?k33 ?z_ValueError ?z_abs ?z_all ?z_bool ?z_int ?z_isinstance ?z_len ?z_list ?z_max ?z_min ?z_range ?z_repr ?z_sorted ?z_str ?z_tuple ?y_LARGE ?y_LONGEST ?y_MOST ?y_SMALL ?y_WEAR ?y_WORN ?y_NoBook ?y_NoNumber ?y_NoPlace ?y_NoReading ?y_NoRow ?y_NoState ?y_NoWord ?y_PenError ?y_Stuck ?q_NoBook ?q_NoReading ?q_NoWord ?vs_NoWord ?ex_NoBook ?ex_NoReading ?ex_NoWord ?g1_NoBook ?g2_NoBook ?v_NoBook ?g1_NoNumber ?g2_NoNumber ?v_NoNumber ?g1_NoPlace ?g2_NoPlace ?v_NoPlace ?g1_NoReading ?g2_NoReading ?v_NoReading ?g1_NoRow ?g2_NoRow ?v_NoRow ?g1_NoState ?g2_NoState ?v_NoState ?g1_NoWord ?g2_NoWord ?v_NoWord ?g1_PenError ?g2_PenError ?v_PenError ?g1_Stuck ?g2_Stuck ?v_Stuck ?v_ValueError ?w_PenError
    (case h1 | h2 | h3 | h4 | h5 | h6 | h7 | h8 | h9 | h10 | h11 | h12 | h13 | h14 | h15 | h16 | h17 | h18 | h19 | h20 | h21 | h22 | h23 | h24 | h25 | h26 | h27 => exact ⟨_, _, _, _, _, _, _, _, _, _, by k_is, by k_is, by k_is, by k_is⟩)
    (case a28 | l28 | q28 | k28 => k_is)
    (case m28 => kernel_rfl)
    (case a29 | l29 | q29 | k29 => k_is)
    (case m29 => kernel_rfl)
    (case h30 | h31 | h32 => exact ⟨_, _, _, _, _, _, _, _, _, _, by k_is, by k_is, by k_is, by k_is⟩)
    (case a33 | l33 | q33 | k33 | z_ValueError | z_abs | z_all | z_bool | z_int | z_isinstance | z_len | z_list | z_max | z_min | z_range | z_repr | z_sorted | z_str | z_tuple | y_LARGE | y_LONGEST | y_MOST | y_SMALL | y_WEAR | y_WORN | y_NoBook | y_NoNumber | y_NoPlace | y_NoReading | y_NoRow | y_NoState | y_NoWord | y_PenError | y_Stuck => k_is)
    (case q_NoBook | q_NoReading | q_NoWord => (refine ⟨?_, ?_, ?_, ?_⟩; k_is; k_exc; k_is; k_is))
    (case vs_NoWord => k_is)
    (case ex_NoBook | ex_NoReading | ex_NoWord => (refine ⟨?_, ?_, ?_, ?_, ?_, ?_, ?_, ?_⟩ <;> k_is))
    (case g1_NoBook | g2_NoBook => k_is)
    (case v_NoBook => (repeat (first | exact .nil | refine .cons (by kit_is) ?_)))
    (case g1_NoNumber | g2_NoNumber => k_is)
    (case v_NoNumber => (repeat (first | exact .nil | refine .cons (by kit_is) ?_)))
    (case g1_NoPlace | g2_NoPlace => k_is)
    (case v_NoPlace => (repeat (first | exact .nil | refine .cons (by kit_is) ?_)))
    (case g1_NoReading | g2_NoReading => k_is)
    (case v_NoReading => (repeat (first | exact .nil | refine .cons (by kit_is) ?_)))
    (case g1_NoRow | g2_NoRow => k_is)
    (case v_NoRow => (repeat (first | exact .nil | refine .cons (by kit_is) ?_)))
    (case g1_NoState | g2_NoState => k_is)
    (case v_NoState => (repeat (first | exact .nil | refine .cons (by kit_is) ?_)))
    (case g1_NoWord | g2_NoWord => k_is)
    (case v_NoWord => (repeat (first | exact .nil | refine .cons (by kit_is) ?_)))
    (case g1_PenError | g2_PenError => k_is)
    (case v_PenError => (repeat (first | exact .nil | refine .cons (by kit_is) ?_)))
    (case g1_Stuck | g2_Stuck => k_is)
    (case v_Stuck | v_ValueError => (repeat (first | exact .nil | refine .cons (by kit_is) ?_)))
    (case w_PenError => (repeat (first | exact .nil | refine .cons (by kts_exm) ?_)))
namespace Bk
open PySem PySem.Spec PyProof.Rows L2 Dl
def isCnt : D → Bool
  | .int i => decide (0 ≤ i)
  | _ => false
def isSm : D → Bool
  | .str z => sgnIn "abcdefghijklmnopqrstuvwxyz" z
  | _ => false
def sgnF (r : Str) (most : Int) : D → Bool
  | .str z => sgnIn r z && (decide (1 ≤ (z.length : Int)) && decide ((z.length : Int) ≤ most))
  | _ => false
def isWd : D → Bool
  | .tup [a, b, c, d] => sgnF "abcdefghijklmnopqrstuvwxyz" 40 a && (sgnF "ABCDEFGHIJKLMNOPQRSTUVWXYZ" 12 b && (isCnt c && isCnt d))
  | _ => false
abbrev NN : Nat := 1000000
def tells (f : D → Bool) : SpD := fun ds s Q _ => ∃ x, ds = [x] ∧ szB NN x = true ∧ Q (.bl (f x)) s
theorem mono_tells {f : D → Bool} : MonoSp (tells f) := fun _ _ _ _ _ _ g _ ⟨x, h1, h2, q⟩ => ⟨x, h1, h2, g _ _ q⟩
theorem len_tells {f : D → Bool} {p : Str} : ∀ ds s Q E, tells f ds s Q E → ds.length = [p].length := fun _ _ _ _ ⟨x, h1, _⟩ => by rw [h1]; rfl
def sp_is_count : SpD := tells isCnt
def sp_is_small : SpD := tells isSm
def sp_is_reading : SpD := tells (sgnF "abcdefghijklmnopqrstuvwxyz" 40)
def sp_is_writing : SpD := tells (sgnF "ABCDEFGHIJKLMNOPQRSTUVWXYZ" 12)
def sp_is_word : SpD := tells isWd
theorem mono_is_count : MonoSp sp_is_count := mono_tells
theorem len_is_count : ∀ ds s Q E, sp_is_count ds s Q E → ds.length = ["thing"].length := len_tells (p := "thing")
theorem mono_is_small : MonoSp sp_is_small := mono_tells
theorem len_is_small : ∀ ds s Q E, sp_is_small ds s Q E → ds.length = ["thing"].length := len_tells (p := "thing")
theorem mono_is_reading : MonoSp sp_is_reading := mono_tells
theorem len_is_reading : ∀ ds s Q E, sp_is_reading ds s Q E → ds.length = ["thing"].length := len_tells (p := "thing")
theorem mono_is_writing : MonoSp sp_is_writing := mono_tells
theorem len_is_writing : ∀ ds s Q E, sp_is_writing ds s Q E → ds.length = ["thing"].length := len_tells (p := "thing")
theorem mono_is_word : MonoSp sp_is_word := mono_tells
theorem len_is_word : ∀ ds s Q E, sp_is_word ds s Q E → ds.length = ["thing"].length := len_tells (p := "thing")
def b_is_count : SD := (dRet (dAndV (dUn (isiF "int") (dVar 0)) (dAndV (dNotV (dUn (isiF "bool") (dVar 0))) (dBin (oF geF) (dVar 0) (dC (.int 0))))))
def b_is_small : SD := (dRet (dAndV (dUn (isiF "str") (dVar 0)) (dCB allF (dCons (dLc (iW (dVar 0)) (CT.g (.one 1)) dYes (dBin (oOr (oInS id) (oIn id)) (dVar 1) (dC (.str "abcdefghijklmnopqrstuvwxyz"))) [1]) dNil))))
def b_is_reading : SD := (dRet (dAndV (dCall sp_is_small [] (dCons (dVar 0) dNil)) (dChain (oF leF) (oF leF) (dC (.int 1)) (dCB lenF (dCons (dVar 0) dNil)) (dC (.int 40)))))
def b_is_writing : SD := (dRet (dAndV (dUn (isiF "str") (dVar 0)) (dAndV (dChain (oF leF) (oF leF) (dC (.int 1)) (dCB lenF (dCons (dVar 0) dNil)) (dC (.int 12))) (dCB allF (dCons (dLc (iW (dVar 0)) (CT.g (.one 1)) dYes (dBin (oOr (oInS id) (oIn id)) (dVar 1) (dC (.str "ABCDEFGHIJKLMNOPQRSTUVWXYZ"))) [1]) dNil)))))
def b_is_word : SD := (dSeq (dIfS (dOr (dNot (dTest (dUn (isiF "tuple") (dVar 0)))) (dTest (dBin (oF neF) (dCB lenF (dCons (dVar 0) dNil)) (dC (.int 4))))) (dRet (dC (.bl false))) dNext)
  (dSeq (dAsg (dVar 0) (gTs [1, 2, 3, 4]))
  (dRet (dAndV (dCall sp_is_reading [] (dCons (dVar 1) dNil)) (dAndV (dCall sp_is_writing [] (dCons (dVar 2) dNil)) (dAndV (dCall sp_is_count [] (dCons (dVar 3) dNil)) (dCall sp_is_count [] (dCons (dVar 4) dNil))))))))
theorem nn_line {z : Str} (h : szB NN (.str z) = true) : z.length ≤ sizeLine := by
  rw [sz_str] at h
  have : sizeLine = 16777216 := sizeLine_eq
  have : NN = 1000000 := rfl
  omega
theorem chain_len {env : En} {s : Sto} {Q : D → Sto → Prop} {i : Nat} {z : Str} {lo hi : Int} (h : env[i]? = some (some (.str z))) (q : Q (.bl (decide (lo ≤ (z.length : Int)) && decide ((z.length : Int) ≤ hi))) s) :
    dChain (oF leF) (oF leF) (dC (.int lo)) (dCB lenF (dCons (dVar i) dNil)) (dC (.int hi)) env s Q := by
  refine ⟨_, h, _, rfl, _, rfl, _, rfl, ?_⟩
  show if decide (lo ≤ (z.length : Int)) = true then _ else _
  by_cases c : lo ≤ (z.length : Int)
  · rw [if_pos (decide_eq_true c)]
    rw [decide_eq_true c, Bool.true_and] at q
    exact ⟨_, rfl, q⟩
  · rw [if_neg (by rw [decide_eq_false c]; exact Bool.false_ne_true)]
    rw [decide_eq_false c, Bool.false_and] at q
    exact q
theorem andV_bl {ta tb : ED} {env : En} {s : Sto} {Q : D → Sto → Prop} {a : Bool} {b : Bool} (ha : ∀ P : D → Sto → Prop, P (.bl a) s → ta env s P) (hb : a = true → ∀ P : D → Sto → Prop, P (.bl b) s → tb env s P) (q : Q (.bl (a && b)) s) : dAndV ta tb env s Q := by
  refine ha _ ⟨a, rfl, ?_⟩
  cases a with
  | true => rw [if_pos rfl]; exact hb rfl _ q
  | false => exact q
section
variable (ds : List D) (s : Sto) (Q : D → Sto → Prop) (E : XD)
theorem pf_is_count (h : sp_is_count ds s Q E) : b_is_count (endsOf Q) (envD ["thing"] ds) s := by
  obtain ⟨x, rfl, hx, q⟩ := h
  cases x <;> simp_all [b_is_count, envD, isiF, isSub, isCnt, szB]
theorem pf_is_small (h : sp_is_small ds s Q E) : b_is_small (endsOf Q) (envD ["thing", "sign"] ds) s := by
  obtain ⟨x, rfl, hx, q⟩ := h
  cases x with
  | str z =>
    refine ⟨_, rfl, _, rfl, true, rfl, ?_⟩
    rw [if_pos rfl]
    exact all_signs (nn_line hx) rfl (Nat.lt_succ_self 1) q
  | frl _ => cases hx
  | ref _ => cases hx
  | exc _ _ _ => cases hx
  | _ => exact ⟨_, rfl, _, rfl, false, rfl, q⟩
theorem pf_is_reading (h : sp_is_reading ds s Q E) : b_is_reading (endsOf Q) (envD ["thing"] ds) s := by
  obtain ⟨x, rfl, hx, q⟩ := h
  cases x with
  | str z => exact andV_bl (fun P p => ⟨_, rfl, _, rfl, hx, p⟩) (fun _ P p => chain_len rfl p) q
  | frl _ => cases hx
  | ref _ => cases hx
  | exc _ _ _ => cases hx
  | _ => exact ⟨_, rfl, _, rfl, hx, false, rfl, q⟩
theorem pf_is_writing (h : sp_is_writing ds s Q E) : b_is_writing (endsOf Q) (envD ["thing", "sign"] ds) s := by
  obtain ⟨x, rfl, hx, q⟩ := h
  cases x with
  | str z =>
    refine andV_bl (a := true) (b := (decide (1 ≤ (z.length : Int)) && decide ((z.length : Int) ≤ 12)) && sgnIn "ABCDEFGHIJKLMNOPQRSTUVWXYZ" z) (fun P p => ⟨_, rfl, _, rfl, p⟩) (fun _ P p => andV_bl (fun P p => chain_len rfl p) (fun _ P p => all_signs (nn_line hx) rfl (Nat.lt_succ_self 1) p) p) ?_
    rw [Bool.true_and, Bool.and_comm]
    exact q
  | frl _ => cases hx
  | ref _ => cases hx
  | exc _ _ _ => cases hx
  | _ => exact ⟨_, rfl, _, rfl, false, rfl, q⟩
theorem pf_is_word (h : sp_is_word ds s Q E) : b_is_word (endsOf Q) (envD ["thing", "reading", "writing", "cost", "kind"] ds) s := by
  obtain ⟨x, rfl, hx, q⟩ := h
  cases x with
  | tup xs =>
    obtain ⟨_, hxs⟩ := sz_tup.mp hx
    by_cases h4 : ∃ a b c d, xs = [a, b, c, d]
    · obtain ⟨a, b, c, d, rfl⟩ := h4
      refine ⟨_, rfl, _, rfl, _, rfl, _, rfl, _, rfl, _, rfl, _, rfl, ?_⟩
      have e : ∀ y ∈ [a, b, c, d], szB NN y = true := hxs
      refine ⟨_, rfl, _, rfl, rfl, ?_⟩
      simp only [r_ret, r_endsR]
      exact andV_bl (fun P p => ⟨_, rfl, _, rfl, e a (by simp), p⟩) (fun _ P p => andV_bl (fun P p => ⟨_, rfl, _, rfl, e b (by simp), p⟩) (fun _ P p => andV_bl (fun P p => ⟨_, rfl, _, rfl, e c (by simp), p⟩) (fun _ P p => ⟨_, rfl, _, rfl, e d (by simp), p⟩) p) p) q
    · have hl : xs.length ≠ 4 := fun h => h4 (by
        match xs, h with
        | [a, b, c, d], _ => exact ⟨a, b, c, d, rfl⟩)
      have hw : isWd (.tup xs) = false := by
        unfold isWd
        split
        · rename_i h; cases h; exact absurd ⟨_, _, _, _, rfl⟩ h4
        · rfl
      rw [hw] at q
      have hl' : (!(((xs.length : Nat) : Int) == 4)) = true := by
        have : ¬ ((xs.length : Nat) : Int) = 4 := by omega
        simp [this]
      refine ⟨_, rfl, _, rfl, _, rfl, _, rfl, _, rfl, _, ne_ii, _, rfl, ?_⟩
      rw [hl']
      exact q
  | frl _ => cases hx
  | ref _ => cases hx
  | exc _ _ _ => cases hx
  | _ => exact ⟨_, rfl, _, rfl, _, rfl, q⟩
end
end Bk
namespace Fa
open PySem PySem.Spec PyProof.Rows L2 Dl Bk
abbrev P2 (xs : List Int) (st n : Int) (tl : Sto) : Sto := some (.lst (xs.map D.int)) :: some (.lst [.ref 0, .int st, .int n]) :: tl
def StT (b : Int) (tl s : Sto) : Prop := ∃ xs st n, s = P2 xs st n tl ∧ 0 ≤ st ∧ st < 618970019642690137449562111 ∧ 0 ≤ n ∧ n ≤ b
theorem StT.up {b c : Int} {tl s : Sto} (h : StT b tl s) (hc : b ≤ c) : StT c tl s := by
  obtain ⟨xs, st, n, h1, h2, h3, h4, h5⟩ := h
  exact ⟨xs, st, n, h1, h2, h3, h4, by omega⟩
def sp__law_pot : SpD := fun ds s Q _ => ∃ ns : List Int, ds = [.frl (ns.map .int)] ∧ ns.length ≤ 63 ∧ (∀ z ∈ ns, Builtin.Int.intBits z ≤ 1048576) ∧ s = [] ∧ ∀ s', StT 0 [] s' → Q (.ref 1) s'
def sp__law_dip : SpD := fun ds s Q _ => ∃ b tl many, ds = [.ref 1, .int many] ∧ StT b tl s ∧ b ≤ 1000000000 ∧ 1 ≤ many ∧ many ≤ 1000000000 ∧ ∀ i s', 0 ≤ i → i < many → StT (b + 1) tl s' → Q (.int i) s'
def b__law_dip : SD := (dSeq (dWhile (dAnd (dTest (dBin (oF neF) (dBin (oF idxF) (dVar 0) (dC (.int 0))) (dLst dNil))) (dTest (dBin (oF eqF) (dBin (oF idxF) (dBin (oF idxF) (dVar 0) (dC (.int 0))) (dC (.int 0))) (dC (.int 0))))) (dDrop (dMt fPop (dBin (oF idxF) (dVar 0) (dC (.int 0))) (dCons (dC (.int 0)) dNil))))
  (dSeq (dIfS (dTest (dBin (oF neF) (dBin (oF idxF) (dVar 0) (dC (.int 0))) (dLst dNil))) (dSeq (dAsg (dBin oMod (dBin (oF idxF) (dBin (oF idxF) (dVar 0) (dC (.int 0))) (dC (.int 0))) (dVar 1)) (gN 3))
  (dSeq (dAsg (dBin oDiv (dBin (oF idxF) (dBin (oF idxF) (dVar 0) (dC (.int 0))) (dC (.int 0))) (dVar 1)) (gIx (dBin (oF idxF) (dVar 0) (dC (.int 0))) (dC (.int 0))))
  (dRet (dVar 3)))) dNext)
  (dSeq (dAsg (dBin (oF addF) (dBin (oF idxF) (dVar 0) (dC (.int 2))) (dC (.int 1))) (gIx (dVar 0) (dC (.int 2))))
  (dSeq (dAsg (dBin (oF addF) (dBin (oF addF) (dBin (oF idxF) (dVar 0) (dC (.int 1))) (dBin oMul (dBin (oF idxF) (dVar 0) (dC (.int 2))) (dBin (oF idxF) (dVar 0) (dC (.int 2))))) (dC (.int 40503))) (gN 2))
  (dSeq (dAsg (dBin oMod (dBin oPow (dVar 2) (dC (.int 5))) (dC (.int 618970019642690137449562111))) (gIx (dVar 0) (dC (.int 1))))
  (dRet (dBin oMod (dBin oDiv (dBin (oF idxF) (dVar 0) (dC (.int 1))) (dC (.int 1048576))) (dVar 1))))))))
theorem at0 {x : D} {xs : List D} {s : Sto} {l : Nat} (h : s[l]? = some (some (.lst (x :: xs)))) : idxF s (.ref l) (.int 0) = some x := by
  rw [idx_r h, atI_in (by decide) (by simp)]
  rfl
theorem ix0 {x : D} {xs : List D} : ixN (x :: xs).length 0 = some 0 := ixN_in (by decide) (by simp)
theorem fpop0 {x : D} {xs : List D} : fPop (x :: xs) [.int 0] = some (x, xs) := by
  show (if -(2 ^ 63) ≤ (0 : Int) ∧ (0 : Int) < 2 ^ 63 then (match ixN (x :: xs).length 0 with
    | some k => ((x :: xs)[k]?).map fun y => (y, (x :: xs).eraseIdx k)
    | none => none) else none) = _
  rw [if_pos (by decide), ix0]
  rfl
theorem dip_stir {b : Int} {tl : Sto} {many st n : Int} {xs : List Int} {Q : D → Sto → Prop} (s0 : 0 ≤ st) (s1 : st < 618970019642690137449562111) (n0 : 0 ≤ n) (n1 : n ≤ b) (hb : b ≤ 1000000000) (m1 : 1 ≤ many) (m2 : many ≤ 1000000000)
    (q : ∀ i s', 0 ≤ i → i < many → StT (b + 1) tl s' → Q (.int i) s') :
    (dSeq (dAsg (dBin (oF addF) (dBin (oF idxF) (dVar 0) (dC (.int 2))) (dC (.int 1))) (gIx (dVar 0) (dC (.int 2))))
  (dSeq (dAsg (dBin (oF addF) (dBin (oF addF) (dBin (oF idxF) (dVar 0) (dC (.int 1))) (dBin oMul (dBin (oF idxF) (dVar 0) (dC (.int 2))) (dBin (oF idxF) (dVar 0) (dC (.int 2))))) (dC (.int 40503))) (gN 2))
  (dSeq (dAsg (dBin oMod (dBin oPow (dVar 2) (dC (.int 5))) (dC (.int 618970019642690137449562111))) (gIx (dVar 0) (dC (.int 1))))
  (dRet (dBin oMod (dBin oDiv (dBin (oF idxF) (dVar 0) (dC (.int 1))) (dC (.int 1048576))) (dVar 1)))))) (endsOf Q) [some (.ref 1), some (.int many), none, none] (P2 xs st n tl) := by
  refine ⟨_, rfl, _, rfl, _, rfl, _, rfl, _, _, _, _, rfl, rfl, rfl, rfl, ?_⟩
  have sq : (n + 1) * (n + 1) ≤ 1000000001 * 1000000001 := Int.mul_le_mul (by omega) (by omega) (by omega) (by omega)
  have sq0 : 0 ≤ (n + 1) * (n + 1) := Int.mul_nonneg (by omega) (by omega)
  refine ⟨_, rfl, _, rfl, _, rfl, _, rfl, _, rfl, _, rfl, .inl ⟨_, _, rfl, rfl, mulOk_of (m := 40) (n := 40) (by omega) (by omega) (by decide), _, rfl, _, rfl, ?_⟩⟩
  have hbits : Builtin.Int.intBits (st + (n + 1) * (n + 1) + 40503) ≤ 100 := intBits_le_iff.mpr (by omega)
  refine ⟨_, rfl, _, _, rfl, rfl, powOk_of hbits (by decide) (by decide), ?_⟩
  refine ⟨_, _, rfl, rfl, (show (0 : Int) < 618970019642690137449562111 by decide), ?_⟩
  refine ⟨_, rfl, _, _, _, _, rfl, rfl, rfl, rfl, ?_⟩
  refine ⟨_, rfl, _, rfl, _, _, rfl, rfl, divOk_of (by decide) (by decide), ?_⟩
  refine ⟨_, rfl, _, _, rfl, rfl, (by omega : 0 < many), ?_⟩
  exact q _ _ (Int.emod_nonneg _ (by omega)) (Int.emod_lt_of_pos _ (by omega)) ⟨xs, _, n + 1, rfl, Int.emod_nonneg _ (by decide), Int.emod_lt_of_pos _ (by decide), by omega, by omega⟩
section
variable (ds : List D) (s : Sto) (Q : D → Sto → Prop) (E : XD)
theorem mono__law_dip : MonoSp sp__law_dip := fun _ _ _ _ _ _ f _ ⟨b, tl, many, h1, h2, h3, h4, h5, h6⟩ => ⟨b, tl, many, h1, h2, h3, h4, h5, fun i s' a1 a2 a3 => f _ _ (h6 i s' a1 a2 a3)⟩
theorem len__law_dip : ∀ ds s Q E, sp__law_dip ds s Q E → ds.length = ["pot", "many"].length := fun _ _ _ _ ⟨_, _, _, h, _⟩ => by rw [h]; rfl
theorem pf__law_dip (h : sp__law_dip ds s Q E) : b__law_dip (endsOf Q) (envD ["pot", "many", "stirred", "found"] ds) s := by
  obtain ⟨b, tl, many, rfl, ⟨xs, st, n, rfl, s0, s1, n0, n1⟩, hb, m1, m2, q⟩ := h
  refine ⟨fun m env s => ∃ ys : List Int, m = ys.length ∧ env = [some (.ref 1), some (.int many), none, none] ∧ s = P2 ys st n tl, ⟨_, xs, rfl, rfl, rfl⟩, ?_⟩
  rintro m env s ⟨ys, rfl, rfl, rfl⟩
  cases ys with
  | nil =>
    refine ⟨_, rfl, _, rfl, Nat.zero_le _, _, ne_l0, _, rfl, ?_⟩
    refine ⟨_, rfl, _, rfl, Nat.zero_le _, _, ne_l0, _, rfl, ?_⟩
    exact dip_stir s0 s1 n0 n1 hb m1 m2 q
  | cons y ys =>
    refine ⟨_, rfl, _, rfl, Nat.zero_le _, _, ne_l0, _, rfl, ?_⟩
    refine ⟨_, rfl, _, rfl, _, at0 rfl, _, eq_ii, _, rfl, ?_⟩
    by_cases hy : y = 0
    · subst hy
      refine ⟨fun e s => e = [some (.ref 1), some (.int many), none, none] ∧ s = P2 ys st n tl, ?_, ?_⟩
      · rintro e' s' ⟨rfl, rfl⟩
        exact ⟨_, Nat.lt_succ_self _, ys, rfl, rfl, rfl⟩
      · exact ⟨_, rfl, _, rfl, _, _, rfl, rfl, _, _, _, rfl, fpop0, rfl, rfl⟩
    · have e : (y == 0) = false := by simpa using hy
      show if (y == 0) = true then _ else _
      rw [e]
      refine ⟨_, rfl, _, rfl, Nat.zero_le _, _, ne_l0, _, rfl, ?_⟩
      refine ⟨_, rfl, _, rfl, _, at0 rfl, _, rfl, _, _, rfl, rfl, (by omega : 0 < many), ?_⟩
      refine ⟨_, rfl, _, rfl, _, at0 rfl, _, rfl, _, _, rfl, rfl, divOk_of (by omega) (by omega), ?_⟩
      refine ⟨_, rfl, _, rfl, _, _, _, _, rfl, rfl, rfl, ix0, ?_⟩
      refine ⟨_, rfl, q _ _ (Int.emod_nonneg _ (by omega)) (Int.emod_lt_of_pos _ (by omega)) ⟨(y / many) :: ys, st, n, rfl, s0, s1, n0, by omega⟩⟩
end
end Fa
namespace Fa
open PySem PySem.Spec PyProof.Rows L2 Dl Bk
def strL (l : List Nat) : Str := ⟨l.toArray⟩
theorem cps_append (a b : Str) : (a ++ b).cps.toList = a.cps.toList ++ b.cps.toList := by
  show (a.cps ++ b.cps).toList = _
  exact Array.toList_append
theorem join_cps : ∀ ys : List Str, (Str.join "" ys).cps.toList = ys.flatMap (·.cps.toList)
  | [] => rfl
  | [x] => by simp [Str.join]
  | x :: y :: r => by
    have e : Str.join "" (x :: y :: r) = x ++ "" ++ Str.join "" (y :: r) := rfl
    rw [e, cps_append, cps_append, join_cps (y :: r)]
    have : (Str.ofString "").cps.toList = [] := rfl
    rw [this, List.append_nil]
    rfl
theorem txt_join_cps (ys : List Str) : (Txt.join "" ys).cps.toList = ys.flatMap (·.cps.toList) := by
  rw [show Txt.join "" ys = Str.join "" ys from PySem.StrLaws.glued_eq_join _ _, join_cps]
theorem txt_join_signs (cs : List Nat) : Txt.join "" (cs.map fun c => (⟨#[c]⟩ : Str)) = strL cs := by
  have h := txt_join_cps (cs.map fun c => (⟨#[c]⟩ : Str))
  have e : (cs.map fun c => (⟨#[c]⟩ : Str)).flatMap (·.cps.toList) = cs := by
    induction cs with
    | nil => rfl
    | cons c cs ih => rw [List.map_cons, List.flatMap_cons, ih (txt_join_cps _)]; rfl
  rw [e] at h
  cases hx : Txt.join "" (cs.map fun c => (⟨#[c]⟩ : Str)) with
  | mk a =>
    rw [hx] at h
    unfold strL
    congr 1
    apply Array.ext'
    rw [h]
theorem strL_length (l : List Nat) : (strL l).length = l.length := by simp [strL, Str.length]
theorem strL_cps (l : List Nat) : (strL l).cps.toList = l := rfl
theorem fapp {xs : List D} {y : D} (h : xs.length < sizeLine) : fAppend xs [y] = some (.non, xs ++ [y]) := by
  show (if xs.length < sizeLine then _ else _) = _
  rw [if_pos h]
def b__law_pot : SD := (dSeq (dAsg (dNew dNil) (gN 1))
  (dSeq (dAsg (dC (.int 12157665459056928801)) (gN 2))
  (dSeq (dFor (iW (dSl (dVar 0) dNoP (dP (dC (.int 63))))) (gN 3) (dIfS (dTest (dBin (oF geF) (dVar 3) (dBin oPow (dC (.int 10)) (dC (.int 18))))) (dDrop (dMt fAppend (dVar 1) (dCons (dBin (oF subF) (dVar 3) (dBin oPow (dC (.int 10)) (dC (.int 18)))) dNil))) (dAsg (dBin oMod (dBin oPow (dBin (oF addF) (dBin (oF addF) (dBin (oF addF) (dVar 2) (dBin oMul (dC (.int 2)) (dCB absF (dCons (dVar 3) dNil)))) (dCB intF (dCons (dBin (oF ltF) (dVar 3) (dC (.int 0))) dNil))) (dC (.int 1))) (dC (.int 5))) (dC (.int 618970019642690137449562111))) (gN 2))))
  (dRet (dNew (dCons (dVar 1) (dCons (dVar 2) (dCons (dC (.int 0)) dNil))))))))
section
variable (ds : List D) (s : Sto) (Q : D → Sto → Prop) (E : XD)
theorem mono__law_pot : MonoSp sp__law_pot := fun _ _ _ _ _ _ f _ ⟨ns, h1, h2, h3, h4, h5⟩ => ⟨ns, h1, h2, h3, h4, fun s' a => f _ _ (h5 s' a)⟩
theorem len__law_pot : ∀ ds s Q E, sp__law_pot ds s Q E → ds.length = ["script"].length := fun _ _ _ _ ⟨_, h, _⟩ => by rw [h]; rfl
theorem pow10 : (10 : Int) ^ (18 : Int).toNat = 1000000000000000000 := by decide
theorem powOk10 {j : Int} (h : 2 ≤ j) (h2 : j ≤ 1000000) : PowOk 10 j := powOk_of (m := 4) (by decide) h (by omega)
theorem pf__law_pot (h : sp__law_pot ds s Q E) : b__law_pot (endsOf Q) (envD ["script", "great", "stir", "cell"] ds) s := by
  obtain ⟨ns, rfl, hn, hb, rfl, q⟩ := h
  refine ⟨Nat.zero_le _, ?_⟩
  refine ⟨_, rfl, _, rfl, _, rfl, ?_⟩
  refine ⟨_, _, isW_lst, ?_⟩
  refine forD_run (fun rest env s => ∃ (ms xs : List Int) (st : Int) (c : Option D), rest = ms.map .int ∧ env = [some (.frl (ns.map .int)), some (.ref 0), some (.int st), c] ∧ s = [some (.lst (xs.map .int))] ∧ xs.length + ms.length ≤ 63 ∧ (∀ z ∈ ms, Builtin.Int.intBits z ≤ 1048576) ∧ 0 ≤ st ∧ st < 618970019642690137449562111) ?_ ?_ ?_
  · rintro d rest env s ⟨ms, xs, st, c, e1, rfl, rfl, hl, hm, s0, s1⟩ N hN
    cases ms with
    | nil => cases e1
    | cons m ms =>
      rw [List.map_cons] at e1
      cases e1
      rw [List.length_cons] at hl
      have hm0 := hm m List.mem_cons_self
      have hm' : ∀ z ∈ ms, Builtin.Int.intBits z ≤ 1048576 := fun z hz => hm z (List.mem_cons_of_mem _ hz)
      refine ⟨trivial, ?_⟩
      refine ⟨_, rfl, _, _, rfl, rfl, powOk10 (by decide) (by decide), _, rfl, _, rfl, ?_⟩
      show if decide ((10 : Int) ^ (18 : Int).toNat ≤ m) = true then _ else _
      rw [pow10]
      by_cases hc : (1000000000000000000 : Int) ≤ m
      · rw [if_pos (decide_eq_true hc)]
        refine ⟨_, rfl, _, _, rfl, rfl, _, rfl, _, _, rfl, rfl, powOk10 (by decide) (by decide), _, rfl, ?_⟩
        have hz : (xs.map D.int).length < sizeLine := by rw [List.length_map, sizeLine_eq]; omega
        refine ⟨_, _, _, rfl, fapp hz, hN _ _ ⟨ms, xs ++ [m - 10 ^ (18 : Int).toNat], st, _, rfl, rfl, ?_, ?_, hm', s0, s1⟩⟩
        · rw [List.map_append]; rfl
        · rw [List.length_append]; simp; omega
      · rw [if_neg (by rw [decide_eq_false hc]; exact Bool.false_ne_true)]
        have ha : Builtin.Int.intBits (if m < 0 then -m else m) ≤ 1048576 := by
          split
          · exact intBits_neg_le hm0
          · exact hm0
        refine ⟨_, rfl, _, rfl, _, rfl, .inl ⟨_, _, rfl, rfl, IntMulOk.of_left (by decide), _, rfl, _, rfl, _, rfl, _, rfl, _, rfl, _, rfl, _, _, rfl, rfl, ?_⟩⟩
        have h2 : Builtin.Int.intBits (2 * (if m < 0 then -m else m)) ≤ 2 + 1048576 := intBits_mul_le (by decide) ha
        have h0 : Builtin.Int.intBits st ≤ 100 := intBits_le_iff.mpr (by omega)
        have h3 := intBits_add_le h0 h2
        have h4 : Builtin.Int.intBits (b2n (decide (m < 0))) ≤ 1 := by
          by_cases hm : m < 0
          · rw [decide_eq_true hm]; decide
          · rw [decide_eq_false hm]; decide
        have h5 := intBits_add_le (intBits_add_le h3 h4) (show Builtin.Int.intBits 1 ≤ 1 by decide)
        refine ⟨powOk_of h5 (by decide) (by decide), ?_⟩
        refine ⟨_, _, rfl, rfl, (show (0 : Int) < 618970019642690137449562111 by decide), ?_⟩
        refine hN _ _ ⟨ms, xs, _, _, rfl, rfl, rfl, by omega, hm', Int.emod_nonneg _ (by decide), Int.emod_lt_of_pos _ (by decide)⟩
  · rintro env s ⟨ms, xs, st, c, e1, rfl, rfl, hl, hm, s0, s1⟩
    refine ⟨trivial, ?_⟩
    refine ⟨_, rfl, _, rfl, le_line (show 3 ≤ 1000000 by decide), ?_⟩
    exact q _ ⟨xs, st, 0, rfl, s0, s1, by decide, by decide⟩
  · refine ⟨ns, [], _, none, ?_, rfl, rfl, by simpa using hn, hb, by decide, by decide⟩
    rw [cutD_to (by decide)]
    rw [List.take_of_length_le]
    rw [List.length_map]; exact hn
end
def sp__law_text : SpD := fun ds s Q _ => ∃ b tl z most, ds = [.ref 1, .str z, .int most] ∧ StT b tl s ∧ b ≤ 100000000 ∧ 1 ≤ z.length ∧ z.length ≤ 1000 ∧ 1 ≤ most ∧ most ≤ 1000 ∧ ∀ (l : List Nat) s', 1 ≤ l.length → (l.length : Int) ≤ most → (∀ c ∈ l, c ∈ z.cps.toList) → StT (b + 1010) tl s' → Q (.str (strL l)) s'
def sp__law_cost : SpD := fun ds s Q _ => ∃ b tl, ds = [.ref 1] ∧ StT b tl s ∧ b ≤ 100000000 ∧ ∀ i s', 0 ≤ i → i < 1000000000000 → StT (b + 10) tl s' → Q (.int i) s'
def b__law_text : SD := (dSeq (dAsg (dBin (oF addF) (dC (.int 1)) (dCall sp__law_dip [] (dCons (dVar 0) (dCons (dBin (oF idxF) (dLst (dCons (dCB min2F (dCons (dC (.int 2)) (dCons (dVar 2) dNil))) (dCons (dCB min2F (dCons (dC (.int 4)) (dCons (dVar 2) dNil))) (dCons (dVar 2) dNil)))) (dCall sp__law_dip [] (dCons (dVar 0) (dCons (dC (.int 3)) dNil)))) dNil)))) (gN 3))
  (dRet (dJoin (dC (.str "")) (dLc (iR1 (dCons (dVar 3) dNil)) (CT.g (.one 4)) dYes (dBin (oF idxF) (dVar 1) (dCall sp__law_dip [] (dCons (dVar 0) (dCons (dCB lenF (dCons (dVar 1) dNil)) dNil)))) [4]))))
def b__law_cost : SD := (dRet (dBin (oF idxF) (dLst (dCons (dCall sp__law_dip [] (dCons (dVar 0) (dCons (dC (.int 4)) dNil))) (dCons (dCall sp__law_dip [] (dCons (dVar 0) (dCons (dC (.int 60)) dNil))) (dCons (dCall sp__law_dip [] (dCons (dVar 0) (dCons (dC (.int 3000)) dNil))) (dCons (dBin (oF subF) (dBin (oF subF) (dBin oPow (dC (.int 10)) (dC (.int 12))) (dC (.int 1))) (dCall sp__law_dip [] (dCons (dVar 0) (dCons (dC (.int 3)) dNil)))) dNil))))) (dCall sp__law_dip [] (dCons (dVar 0) (dCons (dC (.int 4)) dNil)))))
section
variable (ds : List D) (s : Sto) (Q : D → Sto → Prop) (E : XD)
theorem mono__law_text : MonoSp sp__law_text := fun _ _ _ _ _ _ f _ ⟨b, tl, z, m, h1, h2, h3, h4, h5, h6, h7, h⟩ => ⟨b, tl, z, m, h1, h2, h3, h4, h5, h6, h7, fun l s' a1 a2 a3 a4 => f _ _ (h l s' a1 a2 a3 a4)⟩
theorem len__law_text : ∀ ds s Q E, sp__law_text ds s Q E → ds.length = ["pot", "signs", "most"].length := fun _ _ _ _ ⟨_, _, _, _, h, _⟩ => by rw [h]; rfl
theorem mono__law_cost : MonoSp sp__law_cost := fun _ _ _ _ _ _ f _ ⟨b, tl, h1, h2, h3, h⟩ => ⟨b, tl, h1, h2, h3, fun l s' a1 a2 a3 => f _ _ (h l s' a1 a2 a3)⟩
theorem len__law_cost : ∀ ds s Q E, sp__law_cost ds s Q E → ds.length = ["pot"].length := fun _ _ _ _ ⟨_, _, h, _⟩ => by rw [h]; rfl
theorem three {α : Type} {a b c : α} {i : Int} (h0 : 0 ≤ i) (h1 : i < 3) : ∃ x, atI [a, b, c] i = some x ∧ (x = a ∨ x = b ∨ x = c) := by
  obtain ⟨x, h, m⟩ := atI_mem (xs := [a, b, c]) h0 (by simpa using h1)
  exact ⟨x, h, by simpa using m⟩
theorem pf__law_text (h : sp__law_text ds s Q E) : b__law_text (endsOf Q) (envD ["pot", "signs", "most", "many", "k"] ds) s := by
  obtain ⟨b, tl, z, most, rfl, S, hb, z1, z2, m1, m2, q⟩ := h
  refine ⟨_, rfl, _, rfl, _, rfl, _, rfl, _, rfl, _, rfl, le_line (show 3 ≤ 1000000 by decide), _, rfl, b, tl, 3, rfl, S, by omega, by decide, by decide, fun i s1 i0 i1 S1 => ?_⟩
  obtain ⟨x, hx, hm⟩ := three (a := D.int (if most < 2 then most else 2)) (b := D.int (if most < 4 then most else 4)) (c := D.int most) i0 i1
  have hx' : ∃ k : Int, x = .int k ∧ 1 ≤ k ∧ k ≤ most := by
    rcases hm with rfl | rfl | rfl
    · exact ⟨_, rfl, by split <;> omega, by split <;> omega⟩
    · exact ⟨_, rfl, by split <;> omega, by split <;> omega⟩
    · exact ⟨_, rfl, m1, Int.le_refl _⟩
  obtain ⟨k, rfl, k1, k2⟩ := hx'
  refine ⟨_, hx, b + 1, tl, k, rfl, S1, by omega, k1, by omega, fun j s2 j0 j1 S2 => ?_⟩
  refine ⟨_, rfl, _, rfl, _, rfl, 1 + j, rfl, by omega, by omega, ?_⟩
  have hlen : (rangeD 0 (1 + j).toNat).length = (1 + j).toNat := by simp [rangeD]
  refine ⟨le_line (by rw [hlen]; omega), ?_⟩
  refine lcD_run (fun rest acc s => ∃ l : List Nat, acc = l.map (fun c => D.str ⟨#[c]⟩) ∧ rest.length + l.length = (1 + j).toNat ∧ (∀ c ∈ l, c ∈ z.cps.toList) ∧ StT (b + 2 + l.length) tl s) ?_ (acc := []) ⟨[], rfl, by simp [hlen], by simp, S2.up (by simp; omega)⟩ ?_
  · rintro d rest acc s ⟨l, rfl, hl, hz, S3⟩ k1 k0 h1 h0
    rw [List.length_cons] at hl
    refine ⟨trivial, ?_⟩
    refine ⟨_, rfl, _, rfl, _, rfl, _, rfl, _, _, _, rfl, S3, by omega, by omega, by omega, fun i s' i0 i1 S4 => ?_⟩
    obtain ⟨c, hc, hm⟩ := atI_mem (xs := z.cps.toList) i0 (by rw [Array.length_toList]; exact i1)
    refine ⟨_, by rw [idx_s, hc]; rfl, h1 _ _ ⟨l ++ [c], by simp, by simp; omega, ?_, S4.up (by simp; omega)⟩⟩
    intro c' hc'
    rcases List.mem_append.mp hc' with h | h
    · exact hz _ h
    · rw [List.mem_singleton.mp h]; exact hm
  · rintro ys s' ⟨l, hl, hn, hz, S3⟩
    rw [List.nil_append] at hl
    subst hl
    refine ⟨trivial, ?_⟩
    have hs : strsOf (l.map fun c => D.str ⟨#[c]⟩) = some (l.map fun c => (⟨#[c]⟩ : Str)) := by
      have := strsOf_map (l.map fun c => (⟨#[c]⟩ : Str))
      rwa [List.map_map] at this
    have hll : l.length = (1 + j).toNat := by simpa using hn
    have hsum : ∀ l : List Nat, ((l.map fun c => (⟨#[c]⟩ : Str)).map (·.length)).sum = l.length := fun l => by
      induction l with
      | nil => rfl
      | cons c l ih => rw [List.map_cons, List.map_cons, List.sum_cons, ih, List.length_cons]; show 1 + l.length = _; omega
    refine ⟨_, _, rfl, hs, ?_, ?_⟩
    · rw [hsum]
      show l.length + _ * 0 ≤ _
      omega
    · rw [txt_join_signs]
      exact q l s' (by omega) (by omega) hz (S3.up (by omega))
theorem pf__law_cost (h : sp__law_cost ds s Q E) : b__law_cost (endsOf Q) (envD ["pot"] ds) s := by
  obtain ⟨b, tl, rfl, S, hb, q⟩ := h
  refine ⟨_, rfl, b, tl, 4, rfl, S, by omega, by decide, by decide, fun i s1 i0 i1 S1 => ?_⟩
  refine ⟨_, rfl, _, _, 60, rfl, S1, by omega, by decide, by decide, fun j s2 j0 j1 S2 => ?_⟩
  refine ⟨_, rfl, _, _, 3000, rfl, S2, by omega, by decide, by decide, fun k s3 k0 k1 S3 => ?_⟩
  refine ⟨_, _, rfl, rfl, powOk10 (by decide) (by decide), _, rfl, _, rfl, _, _, 3, rfl, S3, by omega, by decide, by decide, fun l s4 l0 l1 S4 => ?_⟩
  refine ⟨_, rfl, le_line (show 4 ≤ 1000000 by decide), ?_⟩
  refine ⟨_, rfl, _, _, 4, rfl, S4, by omega, by decide, by decide, fun m s5 m0 m1 S5 => ?_⟩
  obtain ⟨x, hx, hm⟩ := atI_mem (xs := [D.int i, .int j, .int k, .int ((10 : Int) ^ (12 : Int).toNat - 1 - l)]) m0 (by simpa using m1)
  refine ⟨x, hx, ?_⟩
  have e : (10 : Int) ^ (12 : Int).toNat = 1000000000000 := by decide
  rw [e] at hm
  have hx' : ∃ n : Int, x = .int n ∧ 0 ≤ n ∧ n < 1000000000000 := by
    rcases (by simpa using hm : x = .int i ∨ x = .int j ∨ x = .int k ∨ x = .int (1000000000000 - 1 - l)) with rfl | rfl | rfl | rfl
    · exact ⟨_, rfl, by omega, by omega⟩
    · exact ⟨_, rfl, by omega, by omega⟩
    · exact ⟨_, rfl, by omega, by omega⟩
    · exact ⟨_, rfl, by omega, by omega⟩
  obtain ⟨n, rfl, n0, n1⟩ := hx'
  exact q n s5 n0 n1 (S5.up (by omega))
end
end Fa
namespace Fa
open PySem PySem.Spec PyProof.Rows L2 Dl Bk
def sp__law_odd : SpD := fun ds s Q _ => ∃ b tl, ds = [.ref 1] ∧ StT b tl s ∧ b ≤ 100000000 ∧ ∀ x s', szB 40 x = true → StT (b + 1) tl s' → Q x s'
def sp__law_bent_end : SpD := fun ds s Q _ => ∃ b tl n x, ds = [.ref 1, x] ∧ szB n x = true ∧ 50 ≤ n ∧ n ≤ 100000 ∧ StT b tl s ∧ b ≤ 10000000 ∧ ∀ x s', szB (n + 100) x = true → StT (b + 10) tl s' → Q x s'
def sp__law_bentN (m : Nat) : SpD := fun ds s Q _ => ∃ (b : Int) (tl : Sto) (n : Nat) (x : D) (d : Int), ds = [.ref 1, x, .int d] ∧ d ≤ (m : Int) ∧ szB n x = true ∧ 50 ≤ n ∧ n ≤ 100000 ∧ StT b tl s ∧ b + 10 * (m + 1) ≤ 1000000 ∧ ∀ x s', szB (n + 100) x = true → StT (b + 10 * (m + 1)) tl s' → Q x s'
def b__law_odd : SD := (dSeq (dAsg (dLst (dCons (dC .non) (dCons (dC (.bl true)) (dCons (dC (.bl false)) (dCons (dC (.int 0)) (dCons (dUn negF (dC (.int 1))) (dCons (dC (.int 7)) (dCons (dBin (oF subF) (dBin oPow (dC (.int 10)) (dC (.int 12))) (dC (.int 1))) (dCons (dC (.str "")) (dCons (dC (.str "a")) (dCons (dC (.str "A")) (dCons (dC (.str "aB")) (dCons (dC (.str "a b")) (dCons (dC (.str "ab")) (dCons (dC (.str "AB")) (dCons (dC (.str " ")) (dCons (dC (.str "0")) dNil))))))))))))))))) (gN 1))
  (dSeq (dAsg (dBin (oF addF) (dVar 1) (dLst (dCons (dC (.str "e\n")) (dCons (dTup dNil) (dCons (dLst dNil) (dCons (dC (.dk [] [])) dNil)))))) (gN 1))
  (dSeq (dAsg (dBin (oF addF) (dVar 1) (dLst (dCons (dTup (dCons (dC (.str "a")) (dCons (dC (.str "A")) (dCons (dC (.int 0)) (dCons (dC (.int 0)) dNil))))) (dCons (dLst (dCons (dC (.str "a")) (dCons (dC (.str "A")) (dCons (dC (.int 0)) (dCons (dC (.int 0)) dNil))))) (dCons (dTup (dCons (dC (.str "a")) (dCons (dC (.str "A")) dNil))) (dCons (dLst (dCons (dLst (dCons (dC (.int 0)) dNil)) dNil)) (dCons (dTup (dCons (dLst dNil) (dCons (dLst (dCons (dLst (dCons (dC (.int 0)) dNil)) dNil)) dNil))) (dCons (dC (.dk [.inr "a"] [.int 1])) (dCons (dLst (dCons (dC (.str "a")) dNil)) (dCons (dLst (dCons (dLst (dCons (dC (.str "a")) dNil)) dNil)) (dCons (dLst (dCons (dTup dNil) dNil)) dNil))))))))))) (gN 1))
  (dRet (dBin (oF idxF) (dVar 1) (dCall sp__law_dip [] (dCons (dVar 0) (dCons (dCB lenF (dCons (dVar 1) dNil)) dNil))))))))
def b__law_bent_end : SD := (dSeq (dAsg (dCall sp__law_dip [] (dCons (dVar 0) (dCons (dC (.int 6)) dNil))) (gN 2))
  (dSeq (dIfS (dTest (dUn (isiF "int") (dVar 1))) (dSeq (dAsg (dCB min2F (dCons (dBin (oF addF) (dVar 1) (dC (.int 1))) (dCons (dBin (oF subF) (dBin oPow (dC (.int 10)) (dC (.int 12))) (dC (.int 1))) dNil))) (gN 5))
  (dRet (dBin (oF idxF) (dLst (dCons (dVar 5) (dCons (dBin (oF subF) (dVar 1) (dC (.int 1))) (dCons (dBin (oF subF) (dUn negF (dC (.int 1))) (dVar 1)) (dCons (dBin (oF gtBF) (dVar 1) (dC (.int 0))) (dCons (dCB strF (dCons (dVar 1) dNil)) (dCons (dCall sp__law_odd [] (dCons (dVar 0) dNil)) dNil))))))) (dVar 2)))) dNext)
  (dSeq (dIfS (dOr (dTest (dBin (oF eqF) (dVar 2) (dC (.int 5)))) (dNot (dTest (dUn (isiTF ["str", "tuple", "list"]) (dVar 1))))) (dRet (dCall sp__law_odd [] (dCons (dVar 0) dNil))) dNext)
  (dSeq (dAsg (dCall sp__law_dip [] (dCons (dVar 0) (dCons (dBin (oF addF) (dCB lenF (dCons (dVar 1) dNil)) (dC (.int 1))) dNil))) (gN 3))
  (dSeq (dIfS (dTest (dBin (oF ltF) (dVar 2) (dC (.int 2)))) (dRet (dBin (oF idxF) (dLst (dCons (dBin (oF addF) (dSl (dVar 1) dNoP (dP (dVar 3))) (dSl (dVar 1) (dP (dBin (oF addF) (dVar 3) (dC (.int 1)))) dNoP)) (dCons (dBin (oF addF) (dBin (oF addF) (dSl (dVar 1) dNoP (dP (dVar 3))) (dSl (dVar 1) (dP (dVar 3)) (dP (dBin (oF addF) (dVar 3) (dC (.int 1)))))) (dSl (dVar 1) (dP (dVar 3)) dNoP)) dNil))) (dVar 2))) dNext)
  (dSeq (dIfS (dTest (dUn (isiF "str") (dVar 1))) (dSeq (dAsg (dBin (oF idxF) (dC (.str "aAzZ mM{\x40[`0_")) (dCall sp__law_dip [] (dCons (dVar 0) (dCons (dC (.int 13)) dNil)))) (gN 6))
  (dRet (dBin (oF idxF) (dLst (dCons (dBin (oF addF) (dBin (oF addF) (dSl (dVar 1) dNoP (dP (dVar 3))) (dVar 6)) (dSl (dVar 1) (dP (dVar 3)) dNoP)) (dCons (dBin (oF addF) (dBin (oF addF) (dSl (dVar 1) dNoP (dP (dVar 3))) (dVar 6)) (dSl (dVar 1) (dP (dBin (oF addF) (dVar 3) (dC (.int 1)))) dNoP)) (dCons (dSl (dBin (oF addF) (dVar 1) (dVar 1)) dNoP (dP (dC (.int 41)))) dNil)))) (dBin (oF subF) (dVar 2) (dC (.int 2)))))) dNext)
  (dSeq (dIfS (dTest (dBin (oF eqF) (dVar 2) (dC (.int 2)))) (dRet (dIf (dTest (dUn (isiF "tuple") (dVar 1))) (dCB listF (dCons (dVar 1) dNil)) (dCB tupleF (dCons (dVar 1) dNil)))) dNext)
  (dSeq (dIfS (dTest (dBin (oF eqF) (dVar 2) (dC (.int 3)))) (dRet (dUn revF (dVar 1))) dNext)
  (dSeq (dAsg (dCall sp__law_odd [] (dCons (dVar 0) dNil)) (gN 4))
  (dRet (dBin (oF addF) (dBin (oF addF) (dSl (dVar 1) dNoP (dP (dVar 3))) (dBin (oF idxF) (dLst (dCons (dLst (dCons (dVar 4) dNil)) (dCons (dTup (dCons (dVar 4) dNil)) dNil))) (dCB intF (dCons (dUn (isiF "tuple") (dVar 1)) dNil)))) (dSl (dVar 1) (dP (dVar 3)) dNoP))))))))))))
def b__law_bent (sp__law_bent : SpD) : SD := (dSeq (dIfS (dAnd (dTest (dBin (oF gtBF) (dVar 2) (dC (.int 0)))) (dAnd (dTest (dUn (isiTF ["tuple", "list"]) (dVar 1))) (dAnd (dTest (dBin (oF gtBF) (dCB lenF (dCons (dVar 1) dNil)) (dC (.int 0)))) (dTest (dBin (oF gtBF) (dCall sp__law_dip [] (dCons (dVar 0) (dCons (dC (.int 4)) dNil))) (dC (.int 0))))))) (dSeq (dAsg (dCall sp__law_dip [] (dCons (dVar 0) (dCons (dCB lenF (dCons (dVar 1) dNil)) dNil))) (gN 3))
  (dSeq (dAsg (dCall sp__law_bent [] (dCons (dVar 0) (dCons (dBin (oF idxF) (dVar 1) (dVar 3)) (dCons (dBin (oF subF) (dVar 2) (dC (.int 1))) dNil)))) (gN 4))
  (dRet (dBin (oF addF) (dBin (oF addF) (dSl (dVar 1) dNoP (dP (dVar 3))) (dBin (oF idxF) (dLst (dCons (dLst (dCons (dVar 4) dNil)) (dCons (dTup (dCons (dVar 4) dNil)) dNil))) (dCB intF (dCons (dUn (isiF "tuple") (dVar 1)) dNil)))) (dSl (dVar 1) (dP (dBin (oF addF) (dVar 3) (dC (.int 1)))) dNoP))))) dNext)
  (dRet (dCall sp__law_bent_end [] (dCons (dVar 0) (dCons (dVar 1) dNil)))))
section
variable (ds : List D) (s : Sto) (Q : D → Sto → Prop) (E : XD)
theorem mono__law_odd : MonoSp sp__law_odd := fun _ _ _ _ _ _ f _ ⟨b, tl, h1, h2, h3, h⟩ => ⟨b, tl, h1, h2, h3, fun l s' a1 a2 => f _ _ (h l s' a1 a2)⟩
theorem len__law_odd : ∀ ds s Q E, sp__law_odd ds s Q E → ds.length = ["pot"].length := fun _ _ _ _ ⟨_, _, h, _⟩ => by rw [h]; rfl
theorem mono__law_bent_end : MonoSp sp__law_bent_end := fun _ _ _ _ _ _ f _ ⟨b, tl, n, x, h1, h2, h3, h4, h5, h6, h⟩ => ⟨b, tl, n, x, h1, h2, h3, h4, h5, h6, fun l s' a1 a2 => f _ _ (h l s' a1 a2)⟩
theorem len__law_bent_end : ∀ ds s Q E, sp__law_bent_end ds s Q E → ds.length = ["pot", "thing"].length := fun _ _ _ _ ⟨_, _, _, _, h, _⟩ => by rw [h]; rfl
theorem mono__law_bent {m : Nat} : MonoSp (sp__law_bentN m) := fun _ _ _ _ _ _ f _ ⟨b, tl, n, x, d, h1, h2, h3, h4, h5, h6, h7, h⟩ => ⟨b, tl, n, x, d, h1, h2, h3, h4, h5, h6, h7, fun l s' a1 a2 => f _ _ (h l s' a1 a2)⟩
theorem len__law_bent {m : Nat} : ∀ ds s Q E, sp__law_bentN m ds s Q E → ds.length = ["pot", "thing", "deep"].length := fun _ _ _ _ ⟨_, _, _, _, _, h, _⟩ => by rw [h]; rfl
def odds : List D := [.non, .bl true, .bl false, .int 0, .int (-1), .int 7, .int ((10 : Int) ^ (12 : Int).toNat - 1), .str "", .str "a", .str "A", .str "aB", .str "a b", .str "ab", .str "AB", .str " ", .str "0"] ++ [.str "e\n", .tup [], .lst [], .dk [] []] ++ [.tup [.str "a", .str "A", .int 0, .int 0], .lst [.str "a", .str "A", .int 0, .int 0], .tup [.str "a", .str "A"], .lst [.lst [.int 0]], .tup [.lst [], .lst [.lst [.int 0]]], .dk [.inr "a"] [.int 1], .lst [.str "a"], .lst [.lst [.str "a"]], .lst [.tup []]]
theorem odds_ok : ∀ x ∈ odds, szB 40 x = true := by
  have : odds.all (fun x => szB 40 x) = true := by decide +kernel
  exact List.all_eq_true.mp this
theorem pf__law_odd (h : sp__law_odd ds s Q E) : b__law_odd (endsOf Q) (envD ["pot", "some"] ds) s := by
  obtain ⟨b, tl, rfl, S, hb, q⟩ := h
  refine ⟨_, rfl, _, _, rfl, rfl, powOk10 (by decide) (by decide), _, rfl, ll, ?_⟩
  refine ⟨_, rfl, ll, ll, ll, _, addl ll, ?_⟩
  refine ⟨_, rfl, ll, ll, ll, ll, ll, ll, ll, ll, ll, ll, ll, ll, ll, ll, ll, _, addl ll, ?_⟩
  refine ⟨_, rfl, _, rfl, _, rfl, _, rfl, b, tl, 29, rfl, S, by omega, by decide, by decide, fun i s1 i0 i1 S1 => ?_⟩
  obtain ⟨x, h, m⟩ := atI_mem (xs := odds) i0 (by simpa [odds] using i1)
  exact ⟨x, h, q x s1 (odds_ok x m) S1⟩
theorem len_to {α : Type} {xs : List α} {at_ : Int} (h0 : 0 ≤ at_) (h1 : at_ ≤ xs.length) : (cutD xs none (some at_)).length = at_.toNat := by
  rw [cutD_to h0, List.length_take]; omega
theorem len_from {α : Type} {xs : List α} {at_ : Int} (h0 : 0 ≤ at_) : (cutD xs (some at_) none).length = xs.length - at_.toNat := by
  rw [cutD_from h0, List.length_drop]
theorem len_mid {α : Type} {xs : List α} {at_ : Int} (h0 : 0 ≤ at_) : (cutD xs (some at_) (some (at_ + 1))).length ≤ 1 := by
  rw [cutD_mid h0 (by omega), List.length_drop, List.length_take]; omega
theorem cut_mem {α : Type} {xs : List α} {i j : Option Int} {x : α} (h : x ∈ cutD xs i j) : x ∈ xs := List.mem_of_mem_drop (List.mem_of_mem_take h)
theorem two {α : Type} {a b : α} {i : Int} (h0 : 0 ≤ i) (h1 : i < 2) : ∃ x, atI [a, b] i = some x ∧ (x = a ∨ x = b) := by
  obtain ⟨x, h, m⟩ := atI_mem (xs := [a, b]) h0 (by simpa using h1)
  exact ⟨x, h, by simpa using m⟩
structure Kd (α : Type) (c : List α → D) : Prop where
  hs : ∀ s xs i j, sliceF s (c xs) i j = some (c (cutD xs i j))
  ha : ∀ s a b, a.length + b.length ≤ sizeLine → addF s (c a) (c b) = some (c (a ++ b))
theorem kd_tup : Kd D .tup := ⟨fun _ _ _ _ => rfl, fun _ _ _ h => addt h⟩
theorem kd_lst : Kd D .lst := ⟨fun _ _ _ _ => rfl, fun _ _ _ h => addl h⟩
theorem strL_app (a b : List Nat) : strL a ++ strL b = strL (a ++ b) := by
  show (⟨a.toArray ++ b.toArray⟩ : Str) = ⟨(a ++ b).toArray⟩
  congr 1
  simp
theorem kd_str : Kd Nat fun l => .str (strL l) := ⟨fun _ _ _ _ => rfl, fun s a b h => by
  rw [adds (by rw [strL_length, strL_length]; exact h), strL_app]⟩
theorem str_eq (z : Str) : z = strL z.cps.toList := by
  unfold strL
  simp
theorem bent_lt2 {α : Type} {c : List α → D} (K : Kd α c) {env : En} {s : Sto} {Q : D → Sto → Prop} {xs : List α} {at_ way : Int} (h1 : env[1]? = some (some (c xs))) (h3 : env[3]? = some (some (.int at_))) (h2 : env[2]? = some (some (.int way)))
    (w0 : 0 ≤ way) (w1 : way < 2) (a0 : 0 ≤ at_) (a1 : at_ ≤ xs.length) (hl : xs.length ≤ 200000) (q : ∀ ys : List α, ys.length ≤ xs.length + 1 → (∀ y ∈ ys, y ∈ xs) → Q (c ys) s) :
    dRet (dBin (oF idxF) (dLst (dCons (dBin (oF addF) (dSl (dVar 1) dNoP (dP (dVar 3))) (dSl (dVar 1) (dP (dBin (oF addF) (dVar 3) (dC (.int 1)))) dNoP)) (dCons (dBin (oF addF) (dBin (oF addF) (dSl (dVar 1) dNoP (dP (dVar 3))) (dSl (dVar 1) (dP (dVar 3)) (dP (dBin (oF addF) (dVar 3) (dC (.int 1)))))) (dSl (dVar 1) (dP (dVar 3)) dNoP)) dNil))) (dVar 2)) (endsOf Q) env s := by
  have t := len_to a0 a1
  have f := len_from (xs := xs) a0
  have f1 := len_from (xs := xs) (at_ := at_ + 1) (by omega)
  have m := len_mid (xs := xs) a0
  refine ⟨_, h1, _, h3, _, rfl, _, K.hs _ _ _ _, _, h1, _, h3, _, rfl, _, rfl, _, K.hs _ _ _ _, _, K.ha _ _ _ (le_line (by omega)), ?_⟩
  refine ⟨_, h1, _, h3, _, rfl, _, K.hs _ _ _ _, _, h1, _, h3, _, rfl, _, h3, _, rfl, _, rfl, _, K.hs _ _ _ _, _, K.ha _ _ _ (le_line (by omega)), ?_⟩
  refine ⟨_, h1, _, h3, _, rfl, _, K.hs _ _ _ _, _, K.ha _ _ _ (le_line (by rw [List.length_append]; omega)), ll, _, h2, ?_⟩
  obtain ⟨x, hx, hm⟩ := two (a := c (cutD xs none (some at_) ++ cutD xs (some (at_ + 1)) none)) (b := c (cutD xs none (some at_) ++ cutD xs (some at_) (some (at_ + 1)) ++ cutD xs (some at_) none)) w0 w1
  refine ⟨x, hx, ?_⟩
  rcases hm with rfl | rfl
  · refine q _ (by rw [List.length_append]; omega) fun y hy => ?_
    rcases List.mem_append.mp hy with h | h <;> exact cut_mem h
  · refine q _ (by rw [List.length_append, List.length_append]; omega) fun y hy => ?_
    rcases List.mem_append.mp hy with h | h
    · rcases List.mem_append.mp h with h | h <;> exact cut_mem h
    · exact cut_mem h
theorem bent_in {c : List D → D} (K : Kd D c) {s : Sto} {Q : D → Sto → Prop} {xs : List D} {env : En} {at_ : Int} {inner : D} {b : Bool} (h1 : env[1]? = some (some (c xs))) (h3 : env[3]? = some (some (.int at_))) (h4 : env[4]? = some (some inner))
    (hb : ∀ s, isiF "tuple" s (c xs) = some (.bl b)) (hc : atI [D.lst [inner], .tup [inner]] (b2n b) = some (c [inner])) (a0 : 0 ≤ at_) (a1 : at_ ≤ xs.length) (hl : xs.length ≤ 200000) {j : ED} {k : Int} (hj : ∀ P : D → Sto → Prop, P (.int k) s → j env s P) (k0 : at_ ≤ k)
    (q : ∀ ys : List D, ys.length ≤ xs.length + 1 → (∀ y ∈ ys, y ∈ xs ∨ y = inner) → Q (c ys) s) :
    dRet (dBin (oF addF) (dBin (oF addF) (dSl (dVar 1) dNoP (dP (dVar 3))) (dBin (oF idxF) (dLst (dCons (dLst (dCons (dVar 4) dNil)) (dCons (dTup (dCons (dVar 4) dNil)) dNil))) (dCB intF (dCons (dUn (isiF "tuple") (dVar 1)) dNil)))) (dSl (dVar 1) (dP j) dNoP)) (endsOf Q) env s := by
  have t := len_to a0 a1
  have f := len_from (xs := xs) (at_ := k) (by omega)
  refine ⟨_, h1, _, h3, _, rfl, _, K.hs _ _ _ _, _, h4, ll, _, h4, ll, ll, _, h1, _, hb _, _, rfl, _, hc, _, K.ha _ _ _ (le_line (by show _ + 1 ≤ _; omega)), _, h1, hj _ ⟨_, rfl, _, K.hs _ _ _ _, _, K.ha _ _ _ (le_line (by rw [List.length_append]; show _ + 1 + _ ≤ _; omega)), ?_⟩⟩
  refine q _ (by rw [List.length_append, List.length_append]; show _ + 1 + _ ≤ _; omega) fun y hy => ?_
  rcases List.mem_append.mp hy with h | h
  · rcases List.mem_append.mp h with h | h
    · exact .inl (cut_mem h)
    · exact .inr (by simpa using h)
  · exact .inl (cut_mem h)
theorem ifT {A B : Prop} (h : A) : if true = true then A else B := h
theorem ifF {A B : Prop} (h : B) : if false = true then A else B := h
theorem ifD {c : Prop} [Decidable c] {A B : Prop} (ht : c → A) (hf : ¬ c → B) : if decide c = true then A else B := by
  by_cases h : c
  · rw [if_pos (decide_eq_true h)]; exact ht h
  · rw [if_neg (by rw [decide_eq_false h]; exact Bool.false_ne_true)]; exact hf h
theorem ifB {c : Bool} {A B : Prop} (ht : c = true → A) (hf : c = false → B) : if c = true then A else B := by
  cases c with
  | true => exact ht rfl
  | false => exact hf rfl
theorem p10_12 : PowOk 10 12 := powOk10 (by decide) (by decide)
theorem log_ok {i : Int} (h : i.natAbs ≤ big + 200000) : i.natAbs.log2 < 1920 := by
  by_cases z : i.natAbs = 0
  · rw [z]; decide
  · refine (Nat.log2_lt z).mpr (Nat.lt_of_le_of_lt h ?_)
    unfold big
    decide
theorem b2n_big (k : Bool) {n : Nat} : (b2n k).natAbs ≤ big + n := by
  have : 1 ≤ big := by decide
  cases k
  · exact Nat.zero_le _
  · show 1 ≤ _; omega
theorem str_int_len {i : Int} (h : i.natAbs ≤ big + 200000) : (Str.ofString (toString i)).length ≤ 150 := by
  have h2 : i.natAbs < 10 ^ 100 := Nat.lt_of_le_of_lt h (by unfold big; decide)
  have e := int_text_length_le10 (k := 100) (by decide) h2
  rw [PySem.ofString_length]
  omega
theorem bent_int {b : Int} {tl : Sto} {s : Sto} {Q : D → Sto → Prop} {x : D} {v : Int} {way : Int} {n : Nat} (S : StT b tl s) (hb : b ≤ 10000001) (w0 : 0 ≤ way) (w1 : way < 6) (hx : szB n x = true) (n1 : 50 ≤ n) (n2 : n ≤ 100000)
    (hadd : ∀ s, addF s x (.int 1) = some (.int (v + 1))) (hsub : ∀ s, subF s x (.int 1) = some (.int (v - 1))) (hsb : ∀ s, subF s (.int (-1)) x = some (.int (-1 - v))) (hgt : ∀ s, gtBF s x (.int 0) = some (.bl (decide (0 < v)))) {z : Str} (hst : ∀ s, strF s [x] = some (.str z)) (hz : z.length ≤ 150) (hv : v.natAbs ≤ big + n)
    (q : ∀ x s', szB (n + 100) x = true → StT (b + 1) tl s' → Q x s') :
    (dSeq (dAsg (dCB min2F (dCons (dBin (oF addF) (dVar 1) (dC (.int 1))) (dCons (dBin (oF subF) (dBin oPow (dC (.int 10)) (dC (.int 12))) (dC (.int 1))) dNil))) (gN 5))
  (dRet (dBin (oF idxF) (dLst (dCons (dVar 5) (dCons (dBin (oF subF) (dVar 1) (dC (.int 1))) (dCons (dBin (oF subF) (dUn negF (dC (.int 1))) (dVar 1)) (dCons (dBin (oF gtBF) (dVar 1) (dC (.int 0))) (dCons (dCB strF (dCons (dVar 1) dNil)) (dCons (dCall sp__law_odd [] (dCons (dVar 0) dNil)) dNil))))))) (dVar 2)))) (endsOf Q) [some (.ref 1), some x, some (.int way), none, none, none, none] s := by
  refine ⟨_, rfl, _, hadd _, _, _, rfl, rfl, p10_12, _, rfl, _, rfl, ?_⟩
  refine ⟨_, rfl, _, rfl, _, hsub _, _, rfl, _, rfl, _, hsb _, _, rfl, _, hgt _, _, rfl, _, hst _, _, rfl, b, tl, rfl, S, by omega, fun y s2 hy S2 => ?_⟩
  refine ⟨ll, _, rfl, ?_⟩
  obtain ⟨w, hw, hm⟩ := atI_mem (xs := [D.int (if (10 : Int) ^ (12 : Int).toNat - 1 < v + 1 then (10 : Int) ^ (12 : Int).toNat - 1 else v + 1), .int (v - 1), .int (-1 - v), .bl (decide (0 < v)), .str z, y]) w0 (by simpa using w1)
  refine ⟨w, hw, q w s2 ?_ S2⟩
  have hB : 1000000000000 ≤ big := by decide
  rcases (by simpa using hm : w = D.int (if 999999999999 < v + 1 then 999999999999 else v + 1) ∨ w = .int (v - 1) ∨ w = .int (-1 - v) ∨ w = .bl (decide (0 < v)) ∨ w = .str z ∨ w = y) with rfl | rfl | rfl | rfl | rfl | rfl
  · rw [sz_int]; split <;> omega
  · rw [sz_int]; omega
  · rw [sz_int]; omega
  · rfl
  · rw [sz_str]; omega
  · exact szB_mono (by omega) _ hy
theorem pf__law_bent_end (h : sp__law_bent_end ds s Q E) : b__law_bent_end (endsOf Q) (envD ["pot", "thing", "way", "at", "inner", "more", "sign"] ds) s := by
  obtain ⟨b, tl, n, x, rfl, hx, n1, n2, S, hb, q⟩ := h
  refine ⟨_, rfl, b, tl, 6, rfl, S, by omega, by decide, by decide, fun way s1 w0 w1 S1 => ?_⟩
  have other : ∀ (P : Prop), (∀ y s', szB 40 y = true → StT (b + 1 + 1) tl s' → Q y s') := fun P y s' hy S' => q y s' (szB_mono (by omega) _ hy) (S'.up (by omega))
  cases x with
  | frl _ => cases hx
  | ref _ => cases hx
  | exc _ _ _ => cases hx
  | int i =>
    rw [sz_int] at hx
    refine ⟨_, rfl, _, rfl, _, rfl, ?_⟩
    exact bent_int (v := i) S1 (by omega) w0 w1 (sz_int.mpr hx) n1 n2 (fun _ => rfl) (fun _ => rfl) (fun _ => rfl) (fun _ => rfl) (fun s => by rw [str_i, if_pos (log_ok (by omega))]) (str_int_len (by omega)) hx fun y s' hy S' => q y s' hy (S'.up (by omega))
  | bl k =>
    refine ⟨_, rfl, _, rfl, _, rfl, ?_⟩
    exact bent_int (v := b2n k) S1 (by omega) w0 w1 hx n1 n2 (fun _ => rfl) (fun _ => rfl) (fun _ => rfl) (fun _ => rfl) (fun s => rfl) (by cases k <;> decide) (b2n_big k) fun y s' hy S' => q y s' hy (S'.up (by omega))
  | str z =>
    rw [sz_str] at hx
    refine ⟨_, rfl, _, rfl, _, rfl, _, rfl, _, eq_ii, _, rfl, ifB (fun _ => ?_) fun h5 => ⟨_, rfl, _, rfl, _, rfl, ?_⟩⟩
    · exact ⟨_, rfl, b + 1, tl, rfl, S1, by omega, other True⟩
    have w5 : way ≠ 5 := by simpa using h5
    refine ⟨_, rfl, _, rfl, _, rfl, _, rfl, b + 1, tl, _, rfl, S1, by omega, by omega, by omega, fun at_ s2 a0 a1 S2 => ?_⟩
    rw [str_eq z] at *
    rw [strL_length] at hx
    have a1' : at_ ≤ ((z.cps.toList.length : Nat) : Int) := by rw [strL_length] at a1; omega
    refine ⟨_, rfl, _, rfl, _, rfl, ifD (fun hw => ?_) fun hw => ?_⟩
    · exact bent_lt2 kd_str rfl rfl rfl w0 hw a0 a1' (by omega) fun ys hy _ => q _ _ (by rw [sz_str, strL_length]; omega) (S2.up (by omega))
    refine ⟨_, rfl, _, rfl, _, rfl, ?_⟩
    refine ⟨_, rfl, _, _, 13, rfl, S2, by omega, by decide, by decide, fun j s3 j0 j1 S3 => ?_⟩
    obtain ⟨c, hc, _⟩ := atI_mem (xs := (Str.ofString "aAzZ mM{\x40[`0_").cps.toList) j0 j1
    refine ⟨_, by rw [idx_s, hc]; rfl, ?_⟩
    have t := len_to a0 a1'
    have f := len_from (xs := z.cps.toList) a0
    have f1 := len_from (xs := z.cps.toList) (at_ := at_ + 1) (by omega)
    refine ⟨_, rfl, _, rfl, _, rfl, _, kd_str.hs _ _ _ _, _, rfl, _, kd_str.ha _ _ [c] (le_line (by show _ + 1 ≤ _; omega)), _, rfl, _, rfl, _, rfl, _, kd_str.hs _ _ _ _, _, kd_str.ha _ _ _ (le_line (by rw [List.length_append]; show _ + 1 + _ ≤ _; omega)), ?_⟩
    refine ⟨_, rfl, _, rfl, _, rfl, _, kd_str.hs _ _ _ _, _, rfl, _, kd_str.ha _ _ [c] (le_line (by show _ + 1 ≤ _; omega)), _, rfl, _, rfl, _, rfl, _, rfl, _, kd_str.hs _ _ _ _, _, kd_str.ha _ _ _ (le_line (by rw [List.length_append]; show _ + 1 + _ ≤ _; omega)), ?_⟩
    refine ⟨_, rfl, _, rfl, _, kd_str.ha _ z.cps.toList z.cps.toList (le_line (by omega)), _, rfl, _, kd_str.hs _ _ _ _, ll, _, rfl, _, rfl, ?_⟩
    obtain ⟨y, hy, hm⟩ := atI_mem (xs := [D.str (strL (cutD z.cps.toList none (some at_) ++ [c] ++ cutD z.cps.toList (some at_) none)), .str (strL (cutD z.cps.toList none (some at_) ++ [c] ++ cutD z.cps.toList (some (at_ + 1)) none)), .str (strL (cutD (z.cps.toList ++ z.cps.toList) none (some 41)))]) (i := way - 2) (by omega) (by show way - 2 < 3; omega)
    refine ⟨y, hy, q y s3 ?_ (S3.up (by omega))⟩
    rcases (by simpa using hm : y = D.str (strL (cutD z.cps.toList none (some at_) ++ ([c] ++ cutD z.cps.toList (some at_) none))) ∨ y = .str (strL (cutD z.cps.toList none (some at_) ++ ([c] ++ cutD z.cps.toList (some (at_ + 1)) none))) ∨ y = .str (strL (cutD (z.cps.toList ++ z.cps.toList) none (some 41)))) with rfl | rfl | rfl
    · rw [sz_str, strL_length, List.length_append, List.length_append]; show _ + (1 + _) ≤ _; omega
    · rw [sz_str, strL_length, List.length_append, List.length_append]; show _ + (1 + _) ≤ _; omega
    · rw [sz_str, strL_length, cutD_to (by decide), List.length_take]; omega
  | tup xs =>
    obtain ⟨hl, hm⟩ := sz_tup.mp hx
    have fin : ∀ (ys : List D) s', ys.length ≤ xs.length + 1 → (∀ y ∈ ys, y ∈ xs ∨ szB 40 y = true) → StT (b + 10) tl s' → Q (.tup ys) s' := fun ys s' h1 h2 S' => q _ _ (sz_tup.mpr ⟨by omega, fun y hy => (h2 y hy).elim (fun h => szB_mono (by omega) _ (hm y h)) fun h => szB_mono (by omega) _ h⟩) S'
    refine ⟨_, rfl, _, rfl, _, rfl, _, rfl, _, eq_ii, _, rfl, ifB (fun _ => ?_) fun _ => ⟨_, rfl, _, rfl, _, rfl, ?_⟩⟩
    · exact ⟨_, rfl, b + 1, tl, rfl, S1, by omega, other True⟩
    refine ⟨_, rfl, _, rfl, _, rfl, _, rfl, b + 1, tl, _, rfl, S1, by omega, by omega, by omega, fun at_ s2 a0 a1 S2 => ?_⟩
    have a1' : at_ ≤ ((xs.length : Nat) : Int) := by omega
    refine ⟨_, rfl, _, rfl, _, rfl, ifD (fun hw => ?_) fun hw => ?_⟩
    · exact bent_lt2 kd_tup rfl rfl rfl w0 hw a0 a1' (by omega) fun ys hy h2 => fin ys _ hy (fun y hy => .inl (h2 y hy)) (S2.up (by omega))
    refine ⟨_, rfl, _, rfl, _, rfl, ?_⟩
    refine ⟨_, rfl, _, eq_ii, _, rfl, ifB (fun _ => ?_) fun _ => ?_⟩
    · exact ⟨_, rfl, _, rfl, _, rfl, _, rfl, _, rfl, q _ _ (sz_lst.mpr ⟨by omega, fun y hy => szB_mono (by omega) _ (hm y hy)⟩) (S2.up (by omega))⟩
    refine ⟨_, rfl, _, eq_ii, _, rfl, ifB (fun _ => ?_) fun _ => ?_⟩
    · exact ⟨_, rfl, _, rfl, fin _ _ (by rw [List.length_reverse]; omega) (fun y hy => .inl (List.mem_reverse.mp hy)) (S2.up (by omega))⟩
    refine ⟨_, rfl, b + 2, tl, rfl, S2.up (by omega), by omega, fun inner s3 hi S3 => ?_⟩
    exact bent_in kd_tup (b := true) (k := at_) rfl rfl rfl (fun _ => rfl) rfl a0 a1' (by omega) (fun P p => ⟨_, rfl, p⟩) (Int.le_refl _) fun ys h1 h2 => fin ys _ h1 (fun y hy => (h2 y hy).elim .inl fun e => .inr (by rw [e]; exact hi)) (S3.up (by omega))
  | lst xs =>
    obtain ⟨hl, hm⟩ := sz_lst.mp hx
    have fin : ∀ (ys : List D) s', ys.length ≤ xs.length + 1 → (∀ y ∈ ys, y ∈ xs ∨ szB 40 y = true) → StT (b + 10) tl s' → Q (.lst ys) s' := fun ys s' h1 h2 S' => q _ _ (sz_lst.mpr ⟨by omega, fun y hy => (h2 y hy).elim (fun h => szB_mono (by omega) _ (hm y h)) fun h => szB_mono (by omega) _ h⟩) S'
    refine ⟨_, rfl, _, rfl, _, rfl, _, rfl, _, eq_ii, _, rfl, ifB (fun _ => ?_) fun _ => ⟨_, rfl, _, rfl, _, rfl, ?_⟩⟩
    · exact ⟨_, rfl, b + 1, tl, rfl, S1, by omega, other True⟩
    refine ⟨_, rfl, _, rfl, _, rfl, _, rfl, b + 1, tl, _, rfl, S1, by omega, by omega, by omega, fun at_ s2 a0 a1 S2 => ?_⟩
    have a1' : at_ ≤ ((xs.length : Nat) : Int) := by omega
    refine ⟨_, rfl, _, rfl, _, rfl, ifD (fun hw => ?_) fun hw => ?_⟩
    · exact bent_lt2 kd_lst rfl rfl rfl w0 hw a0 a1' (by omega) fun ys hy h2 => fin ys _ hy (fun y hy => .inl (h2 y hy)) (S2.up (by omega))
    refine ⟨_, rfl, _, rfl, _, rfl, ?_⟩
    refine ⟨_, rfl, _, eq_ii, _, rfl, ifB (fun _ => ?_) fun _ => ?_⟩
    · exact ⟨_, rfl, _, rfl, _, rfl, _, rfl, _, rfl, q _ _ (sz_tup.mpr ⟨by omega, fun y hy => szB_mono (by omega) _ (hm y hy)⟩) (S2.up (by omega))⟩
    refine ⟨_, rfl, _, eq_ii, _, rfl, ifB (fun _ => ?_) fun _ => ?_⟩
    · exact ⟨_, rfl, _, rfl, fin _ _ (by rw [List.length_reverse]; omega) (fun y hy => .inl (List.mem_reverse.mp hy)) (S2.up (by omega))⟩
    refine ⟨_, rfl, b + 2, tl, rfl, S2.up (by omega), by omega, fun inner s3 hi S3 => ?_⟩
    exact bent_in kd_lst (b := false) (k := at_) rfl rfl rfl (fun _ => rfl) rfl a0 a1' (by omega) (fun P p => ⟨_, rfl, p⟩) (Int.le_refl _) fun ys h1 h2 => fin ys _ h1 (fun y hy => (h2 y hy).elim .inl fun e => .inr (by rw [e]; exact hi)) (S3.up (by omega))
  | _ =>
    refine ⟨_, rfl, _, rfl, _, rfl, _, rfl, _, eq_ii, _, rfl, ifB (fun _ => ?_) fun _ => ⟨_, rfl, _, rfl, _, rfl, ?_⟩⟩
    · exact ⟨_, rfl, b + 1, tl, rfl, S1, by omega, other True⟩
    · exact ⟨_, rfl, b + 1, tl, rfl, S1, by omega, other True⟩
end
end Fa
namespace Fa
open PySem PySem.Spec PyProof.Rows L2 Dl Bk
section
variable (ds : List D) (s : Sto) (Q : D → Sto → Prop) (E : XD)
theorem bent_out {spB : SpD} {b : Int} {tl : Sto} {s : Sto} {n : Nat} {x : D} {d : Int} {Q : D → Sto → Prop} (hx : szB n x = true) (n1 : 50 ≤ n) (n2 : n ≤ 100000) (S : StT b tl s) (hb : b ≤ 1000001) (q : ∀ x s', szB (n + 100) x = true → StT (b + 10) tl s' → Q x s') :
    dRet (dCall sp__law_bent_end [] (dCons (dVar 0) (dCons (dVar 1) dNil))) (endsOf Q) [some (.ref 1), some x, some (.int d), none, none] s :=
  ⟨_, rfl, _, rfl, b, tl, n, x, rfl, hx, n1, n2, S, by omega, q⟩
theorem bent_seq {m : Nat} {b : Int} {tl : Sto} {s : Sto} {n : Nat} {c : List D → D} (K : Kd D c) {bt : Bool} (hb1 : ∀ s xs, isiF "tuple" s (c xs) = some (.bl bt)) (hc : ∀ x, atI [D.lst [x], .tup [x]] (b2n bt) = some (c [x])) (hi : ∀ s xs, isiTF ["tuple", "list"] s (c xs) = some (.bl true)) (hlen : ∀ s xs, lenF s [c xs] = some (.int xs.length)) (hix : ∀ s xs i, idxF s (c xs) (.int i) = atI xs i)
    (hsz : ∀ m xs, szB m (c xs) = true ↔ xs.length ≤ m ∧ ∀ x ∈ xs, szB m x = true) {xs : List D} {d : Int} {Q : D → Sto → Prop} (hd : d ≤ ((m + 1 : Nat) : Int)) (hx : szB n (c xs) = true) (n1 : 50 ≤ n) (n2 : n ≤ 100000) (S : StT b tl s) (hb : b + 10 * ((m + 1 : Nat) + 1) ≤ 1000000)
    (q : ∀ x s', szB (n + 100) x = true → StT (b + 10 * ((m + 1 : Nat) + 1)) tl s' → Q x s') : b__law_bent (sp__law_bentN m) (endsOf Q) [some (.ref 1), some (c xs), some (.int d), none, none] s := by
  obtain ⟨hl, hm⟩ := (hsz n xs).mp hx
  refine ⟨_, rfl, _, rfl, _, rfl, ifD (fun hd0 => ?_) fun _ => ?_⟩
  · refine ⟨_, rfl, _, hi _ _, _, rfl, ?_⟩
    refine ⟨_, rfl, _, hlen _ _, _, rfl, _, rfl, ifD (fun hl0 => ?_) fun _ => ?_⟩
    · refine ⟨_, rfl, b, tl, 4, rfl, S, by omega, by decide, by decide, fun i s1 i0 i1 S1 => ?_⟩
      refine ⟨_, rfl, _, rfl, ifD (fun hi0 => ?_) fun _ => ?_⟩
      · refine ⟨_, rfl, _, rfl, _, hlen _ _, b + 1, tl, _, rfl, S1, by omega, by omega, by omega, fun at_ s2 a0 a1 S2 => ?_⟩
        obtain ⟨y, hy, my⟩ := atI_mem (xs := xs) a0 a1
        refine ⟨_, rfl, _, rfl, _, rfl, _, (hix _ _ _).trans hy, _, rfl, _, rfl, b + 2, tl, n, y, d - 1, rfl, by omega, hm y my, n1, n2, S2.up (by omega), by omega, fun inner s3 h3 S3 => ?_⟩
        refine bent_in K (b := bt) (k := at_ + 1) rfl rfl rfl (fun s => hb1 s xs) (hc inner) a0 (by omega) (by omega) (fun P p => ⟨_, rfl, _, rfl, p⟩) (by omega) fun ys h1 h2 => q _ _ ((hsz _ _).mpr ⟨by omega, fun y hy => ?_⟩) (S3.up (by omega))
        rcases h2 y hy with h | h
        · exact szB_mono (by omega) _ (hm y h)
        · rw [h]; exact h3
      · exact bent_out (spB := spNo) hx n1 n2 S1 (by omega) fun x s' hx S' => q x s' hx (S'.up (by omega))
    · exact bent_out (spB := spNo) hx n1 n2 S (by omega) fun x s' hx S' => q x s' hx (S'.up (by omega))
  · exact bent_out (spB := spNo) hx n1 n2 S (by omega) fun x s' hx S' => q x s' hx (S'.up (by omega))
theorem pf__law_bent0 (h : sp__law_bentN 0 ds s Q E) : b__law_bent spNo (endsOf Q) (envD ["pot", "thing", "deep", "at", "inner"] ds) s := by
  obtain ⟨b, tl, n, x, d, rfl, hd, hx, n1, n2, S, hb, q⟩ := h
  refine ⟨_, rfl, _, rfl, _, rfl, ifD (fun hd0 => ?_) fun _ => ?_⟩
  · exact absurd hd0 (by omega)
  · exact bent_out (spB := spNo) hx n1 n2 S (by omega) fun x s' hx S' => q x s' hx (S'.up (by omega))
theorem pf__law_bentS (m : Nat) (h : sp__law_bentN (m + 1) ds s Q E) : b__law_bent (sp__law_bentN m) (endsOf Q) (envD ["pot", "thing", "deep", "at", "inner"] ds) s := by
  obtain ⟨b, tl, n, x, d, rfl, hd, hx, n1, n2, S, hb, q⟩ := h
  cases x with
  | frl _ => cases hx
  | ref _ => cases hx
  | exc _ _ _ => cases hx
  | tup xs => exact bent_seq kd_tup (bt := true) (fun _ _ => rfl) (fun _ => rfl) (fun _ _ => rfl) (fun _ _ => rfl) (fun _ _ _ => rfl) (fun _ _ => sz_tup) hd hx n1 n2 S hb q
  | lst xs => exact bent_seq kd_lst (bt := false) (fun _ _ => rfl) (fun _ => rfl) (fun _ _ => rfl) (fun _ _ => rfl) (fun _ _ _ => rfl) (fun _ _ => sz_lst) hd hx n1 n2 S hb q
  | _ =>
    refine ⟨_, rfl, _, rfl, _, rfl, ifD (fun hd0 => ?_) fun _ => ?_⟩
    · refine ⟨_, rfl, _, rfl, _, rfl, ?_⟩
      exact bent_out (spB := spNo) hx n1 n2 S (by omega) fun x s' hx S' => q x s' hx (S'.up (by omega))
    · exact bent_out (spB := spNo) hx n1 n2 S (by omega) fun x s' hx S' => q x s' hx (S'.up (by omega))
end
def sp__law_signs : SpD := fun ds s Q _ => ∃ x r most, ds = [x, .str r, .int most] ∧ szB NN x = true ∧ Q (.bl (sgnF r most x)) s
def b__law_signs : SD := (dSeq (dIfS (dOr (dNot (dTest (dUn (isiF "str") (dVar 0)))) (dOr (dTest (dBin (oF eqF) (dVar 0) (dC (.str "")))) (dTest (dBin (oF gtBF) (dCB lenF (dCons (dVar 0) dNil)) (dVar 2))))) (dRet (dC (.bl false))) dNext)
  (dRet (dBin (oF eqF) (dLc (iW (dVar 0)) (CT.g (.one 3)) (dTest (dBin (oOr (oInS Bool.not) (oIn Bool.not)) (dVar 3) (dVar 1))) (dVar 3) [3]) (dLst dNil))))
theorem mono__law_signs : MonoSp sp__law_signs := fun _ _ _ _ _ _ f _ ⟨x, r, m, h1, h2, h⟩ => ⟨x, r, m, h1, h2, f _ _ h⟩
theorem len__law_signs : ∀ ds s Q E, sp__law_signs ds s Q E → ds.length = ["thing", "signs", "most"].length := fun _ _ _ _ ⟨_, _, _, h, _⟩ => by rw [h]; rfl
section
variable (ds : List D) (s : Sto) (Q : D → Sto → Prop) (E : XD)
theorem str_empty {z : Str} : (z == ("" : Str)) = decide (z.length = 0) := by
  by_cases h : z.length = 0
  · have e : z = "" := by
      have : z.cps.toList = [] := List.eq_nil_of_length_eq_zero (by simpa [Str.length] using h)
      rw [str_eq z, this]; rfl
    subst e; decide
  · have e : ¬ z = "" := fun e => h (by rw [e]; rfl)
    rw [decide_eq_false h]
    exact beq_false_of_ne e
theorem pf__law_signs (h : sp__law_signs ds s Q E) : b__law_signs (endsOf Q) (envD ["thing", "signs", "most", "sign"] ds) s := by
  obtain ⟨x, r, most, rfl, hx, q⟩ := h
  cases x with
  | frl _ => cases hx
  | ref _ => cases hx
  | exc _ _ _ => cases hx
  | str z =>
    refine ⟨_, rfl, _, rfl, _, rfl, _, rfl, _, eq_ss, _, rfl, ?_⟩
    rw [str_empty]
    refine ifD (fun h0 => ?_) fun h0 => ⟨_, rfl, _, rfl, _, rfl, _, rfl, _, rfl, ifD (fun h1 => ?_) fun h1 => ?_⟩
    · have e : sgnF r most (.str z) = false := by
        show (sgnIn r z && (decide (1 ≤ (z.length : Int)) && decide ((z.length : Int) ≤ most))) = false
        rw [decide_eq_false (by omega : ¬ 1 ≤ (z.length : Int))]; simp
      rw [e] at q
      exact q
    · have e : sgnF r most (.str z) = false := by
        show (sgnIn r z && (decide (1 ≤ (z.length : Int)) && decide ((z.length : Int) ≤ most))) = false
        rw [decide_eq_false (by omega : ¬ (z.length : Int) ≤ most)]; simp
      rw [e] at q
      exact q
    · have e : sgnF r most (.str z) = sgnIn r z := by
        show (sgnIn r z && (decide (1 ≤ (z.length : Int)) && decide ((z.length : Int) ≤ most))) = _
        rw [decide_eq_true (by omega : (z.length : Int) ≤ most), decide_eq_true (by omega : 1 ≤ (z.length : Int))]; simp
      rw [e] at q
      exact out_signs (nn_line hx) rfl (Nat.lt_succ_self 3) rfl (by decide) q
  | _ => exact ⟨_, rfl, _, rfl, _, rfl, q⟩
end
end Fa
namespace Bk
open PySem PySem.Spec PyProof.Rows L2 Dl Fa
def rowOk (n : Nat) : D → Bool
  | .lst js => decide (js.length = n) && js.all isCnt
  | _ => false
def isJn : D → Bool
  | .lst rows => !decide (rows = []) && rows.all (rowOk rows.length)
  | _ => false
def kindOf : D → Int
  | .tup [_, _, _, .int k] => k
  | _ => 0
def pairK : D → List Key
  | .tup (.str r :: .str w :: _) => [.inr r, .inr w]
  | _ => []
def dictOf (ws : List D) : List (List Key × D) := ws.foldl (fun acc w => putP acc (pairK w) (.bl true)) []
def isBk2 (ws : List D) : D → Bool
  | .lst rows => ws.all (fun w => decide (kindOf w < (rows.length : Int) - 1)) && decide ((dictOf ws).length = ws.length)
  | _ => false
def isBk : D → Bool
  | .tup [.lst ws, j] => ws.all isWd && (isJn j && isBk2 ws j)
  | _ => false
def sp_are_joins : SpD := tells isJn
def sp_is_book : SpD := tells isBk
def sp_need_book : SpD := fun ds s Q _ => ∃ x, ds = [x] ∧ szB NN x = true ∧ isBk x = true ∧ Q .non s
theorem mono_are_joins : MonoSp sp_are_joins := mono_tells
theorem len_are_joins : ∀ ds s Q E, sp_are_joins ds s Q E → ds.length = ["thing"].length := len_tells (p := "thing")
theorem mono_is_book : MonoSp sp_is_book := mono_tells
theorem len_is_book : ∀ ds s Q E, sp_is_book ds s Q E → ds.length = ["thing"].length := len_tells (p := "thing")
theorem mono_need_book : MonoSp sp_need_book := fun _ _ _ _ _ _ f _ ⟨x, h1, h2, h3, h⟩ => ⟨x, h1, h2, h3, f _ _ h⟩
theorem len_need_book : ∀ ds s Q E, sp_need_book ds s Q E → ds.length = ["thing"].length := fun _ _ _ _ ⟨_, h, _⟩ => by rw [h]; rfl
def b_are_joins : SD := (dSeq (dIfS (dOr (dNot (dTest (dUn (isiF "list") (dVar 0)))) (dTest (dBin (oF eqF) (dVar 0) (dLst dNil)))) (dRet (dC (.bl false))) dNext)
  (dSeq (dFor (iW (dVar 0)) (gN 1) (dIfS (dOr (dNot (dTest (dUn (isiF "list") (dVar 1)))) (dOr (dTest (dBin (oF neF) (dCB lenF (dCons (dVar 1) dNil)) (dCB lenF (dCons (dVar 0) dNil)))) (dNot (dTest (dCB allF (dCons (dLc (iW (dVar 1)) (CT.g (.one 2)) dYes (dCall sp_is_count [] (dCons (dVar 2) dNil)) [2]) dNil)))))) (dRet (dC (.bl false))) dNext))
  (dRet (dC (.bl true)))))
def b_is_book : SD := (dSeq (dIfS (dOr (dNot (dTest (dUn (isiF "tuple") (dVar 0)))) (dTest (dBin (oF neF) (dCB lenF (dCons (dVar 0) dNil)) (dC (.int 2))))) (dRet (dC (.bl false))) dNext)
  (dSeq (dAsg (dVar 0) (gTs [1, 2]))
  (dSeq (dIfS (dOr (dNot (dTest (dUn (isiF "list") (dVar 1)))) (dOr (dNot (dTest (dCB allF (dCons (dLc (iW (dVar 1)) (CT.g (.one 3)) dYes (dCall sp_is_word [] (dCons (dVar 3) dNil)) [3]) dNil)))) (dNot (dTest (dCall sp_are_joins [] (dCons (dVar 2) dNil)))))) (dRet (dC (.bl false))) dNext)
  (dSeq (dIfS (dNot (dTest (dCB allF (dCons (dLc (iW (dVar 1)) (CT.g (.one 3)) dYes (dBin (oF ltF) (dBin (oF idxF) (dVar 3) (dC (.int 3))) (dBin (oF subF) (dCB lenF (dCons (dVar 2) dNil)) (dC (.int 1)))) [3]) dNil)))) (dRet (dC (.bl false))) dNext)
  (dRet (dBin (oF eqF) (dCB lenF (dCons (dDc (iW (dVar 1)) (CT.g (.one 3)) dYes (dSl (dVar 3) dNoP (dP (dC (.int 2)))) (dC (.bl true)) [3]) dNil)) (dCB lenF (dCons (dVar 1) dNil))))))))
def b_need_book : SD := (dIfS (dNot (dTest (dCall sp_is_book [] (dCons (dVar 0) dNil)))) dNever dNext)
theorem all_tells {env : En} {s : Sto} {Q : D → Sto → Prop} {te : ED} {i j : Nat} {xs : List D} (f : D → Bool) (hi : env[i]? = some (some (.lst xs))) (hl : xs.length ≤ NN) (hte : ∀ d ∈ xs, ∀ P : D → Sto → Prop, P (.bl (f d)) s → te ((wipeE env [j]).set j (some d)) s P)
    (q : Q (.bl (xs.all f)) s) : dCB allF (dCons (dLc (iW (dVar i)) (CT.g (.one j)) dYes te [j]) dNil) env s Q := by
  refine ⟨_, hi, _, _, isW_lst, le_line hl, ?_⟩
  refine lcD_pure (fun _ => true) (fun d => .bl (f d)) trivial (fun d hd k1 k0 h1 h0 => hte d hd _ (h1 rfl)) ?_
  refine ⟨.bl (xs.all f), ?_, q⟩
  rw [List.filter_eq_self.mpr (fun _ _ => rfl)]
  have e : xs.map (fun d => D.bl (f d)) = (xs.map f).map D.bl := by rw [List.map_map]; rfl
  rw [e, all_l, List.all_map]
  rfl
section
variable (ds : List D) (s : Sto) (Q : D → Sto → Prop) (E : XD)
theorem pf_need_book (h : sp_need_book ds s Q E) : b_need_book (endsOf Q) (envD ["thing"] ds) s := by
  obtain ⟨x, rfl, hx, hb, q⟩ := h
  refine ⟨_, rfl, x, rfl, hx, _, rfl, ?_⟩
  rw [hb]
  exact q
theorem pf_are_joins (h : sp_are_joins ds s Q E) : b_are_joins (endsOf Q) (envD ["thing", "row", "join"] ds) s := by
  obtain ⟨x, rfl, hx, q⟩ := h
  cases x with
  | frl _ => cases hx
  | ref _ => cases hx
  | exc _ _ _ => cases hx
  | lst rows =>
    obtain ⟨hl, hm⟩ := sz_lst.mp hx
    refine ⟨_, rfl, _, rfl, _, rfl, _, rfl, ll, _, eq_l0, _, rfl, ifD (fun h0 => ?_) fun h0 => ?_⟩
    · subst h0; exact q
    refine ⟨_, rfl, _, _, isW_lst, ?_⟩
    refine forD_run (fun rest env s' => s' = s ∧ (∃ c, env = [some (.lst rows), c, none]) ∧ (∀ r ∈ rest, r ∈ rows) ∧ rows.all (rowOk rows.length) = rest.all (rowOk rows.length)) ?_ ?_ ?_
    · rintro r rest env s' ⟨rfl, ⟨c, rfl⟩, hr, e⟩ N hN
      rw [List.all_cons] at e
      have hjn : isJn (.lst rows) = rows.all (rowOk rows.length) := by
        show (!decide (rows = []) && rows.all (rowOk rows.length)) = _
        rw [decide_eq_false h0]; rfl
      rw [hjn, e] at q
      have hr0 := hr r List.mem_cons_self
      have szr := hm r hr0
      have on : rowOk rows.length r = true → N [some (.lst rows), some r, none] s' := fun ho => hN _ _ ⟨rfl, ⟨_, rfl⟩, fun y hy => hr y (List.mem_cons_of_mem _ hy), by rw [e, ho]; rfl⟩
      refine ⟨trivial, ?_⟩
      cases r with
      | frl _ => cases szr
      | ref _ => cases szr
      | exc _ _ _ => cases szr
      | lst js =>
        obtain ⟨hjl, hjm⟩ := sz_lst.mp szr
        refine ⟨_, rfl, _, rfl, _, rfl, _, rfl, _, rfl, _, rfl, _, rfl, _, ne_ii, _, rfl, ?_⟩
        by_cases hlen : js.length = rows.length
        · have e1 : (!(((js.length : Nat) : Int) == ((rows.length : Nat) : Int))) = false := by rw [hlen]; simp
          rw [e1]
          refine all_tells isCnt rfl hjl (fun d hd P p => ⟨_, rfl, d, rfl, hjm d hd, p⟩) ⟨_, rfl, ?_⟩
          have ho : rowOk rows.length (.lst js) = js.all isCnt := by
            show (decide (js.length = rows.length) && js.all isCnt) = _
            rw [decide_eq_true hlen]; rfl
          rw [ho] at on q
          cases hc : js.all isCnt with
          | true => exact on hc
          | false => rw [hc] at q; exact q
        · have e1 : (!(((js.length : Nat) : Int) == ((rows.length : Nat) : Int))) = true := by
            have : ¬ ((js.length : Nat) : Int) = ((rows.length : Nat) : Int) := by omega
            simp [this]
          rw [e1]
          have ho : rowOk rows.length (.lst js) = false := by
            show (decide (js.length = rows.length) && js.all isCnt) = _
            rw [decide_eq_false hlen]; rfl
          rw [ho] at q
          exact q
      | _ => exact ⟨_, rfl, _, rfl, _, rfl, q⟩
    · rintro env s' ⟨rfl, ⟨c, rfl⟩, _, e⟩
      have hjn : isJn (.lst rows) = true := by
        show (!decide (rows = []) && rows.all (rowOk rows.length)) = _
        rw [decide_eq_false h0, e]; rfl
      rw [hjn] at q
      exact ⟨trivial, q⟩
    · exact ⟨rfl, ⟨none, rfl⟩, fun _ h => h, rfl⟩
  | _ => exact ⟨_, rfl, _, rfl, _, rfl, q⟩
theorem isWd_shape {x : D} (h : isWd x = true) : ∃ r w c k, x = .tup [.str r, .str w, .int c, .int k] := by
  unfold isWd at h
  split at h
  · rename_i a b c d
    rw [Bool.and_eq_true, Bool.and_eq_true, Bool.and_eq_true] at h
    obtain ⟨h1, h2, h3, h4⟩ := h
    cases a <;> first | cases h1 | skip
    cases b <;> first | cases h2 | skip
    cases c <;> first | cases h3 | skip
    cases d <;> first | cases h4 | skip
    exact ⟨_, _, _, _, rfl⟩
  · cases h
theorem pf_is_book (h : sp_is_book ds s Q E) : b_is_book (endsOf Q) (envD ["thing", "words", "joins", "word"] ds) s := by
  obtain ⟨x, rfl, hx, q⟩ := h
  cases x with
  | frl _ => cases hx
  | ref _ => cases hx
  | exc _ _ _ => cases hx
  | tup xs =>
    obtain ⟨_, hxs⟩ := sz_tup.mp hx
    by_cases h2 : ∃ a b, xs = [a, b]
    · obtain ⟨a, b, rfl⟩ := h2
      have sa : szB NN a = true := hxs a (by simp)
      have sb : szB NN b = true := hxs b (by simp)
      refine ⟨_, rfl, _, rfl, _, rfl, _, rfl, _, rfl, _, rfl, _, rfl, ?_⟩
      refine ⟨_, rfl, _, rfl, rfl, ?_⟩
      cases a with
      | frl _ => cases sa
      | ref _ => cases sa
      | exc _ _ _ => cases sa
      | lst ws =>
        obtain ⟨wl, wm⟩ := sz_lst.mp sa
        have hbk : isBk (.tup [.lst ws, b]) = (ws.all isWd && (isJn b && isBk2 ws b)) := rfl
        rw [hbk] at q
        refine ⟨_, rfl, _, rfl, _, rfl, ?_⟩
        refine all_tells isWd rfl wl (fun d hd P p => ⟨_, rfl, d, rfl, wm d hd, p⟩) ⟨_, rfl, ?_⟩
        cases hw : ws.all isWd with
        | false => rw [hw] at q; exact q
        | true =>
          rw [hw] at q
          refine ⟨_, rfl, b, rfl, sb, _, rfl, ?_⟩
          cases hj : isJn b with
          | false => rw [hj] at q; exact q
          | true =>
            rw [hj] at q
            cases b with
            | lst rows =>
              have hb2 : isBk2 ws (.lst rows) = (ws.all (fun w => decide (kindOf w < (rows.length : Int) - 1)) && decide ((dictOf ws).length = ws.length)) := rfl
              rw [hb2] at q
              have hws : ∀ w ∈ ws, ∃ r z c k, w = .tup [.str r, .str z, .int c, .int k] := fun w h => isWd_shape (List.all_eq_true.mp hw w h)
              refine all_tells (fun w => decide (kindOf w < (rows.length : Int) - 1)) rfl wl (fun d hd P p => ?_) ⟨_, rfl, ?_⟩
              · obtain ⟨r, z, c, k, rfl⟩ := hws d hd
                exact ⟨_, rfl, _, rfl, _, rfl, _, rfl, _, rfl, _, rfl, p⟩
              cases hk : ws.all (fun w => decide (kindOf w < (rows.length : Int) - 1)) with
              | false => rw [hk] at q; exact q
              | true =>
                rw [hk] at q
                refine ⟨_, rfl, _, _, isW_lst, le_line wl, ?_⟩
                refine dcD_run (fun rest acc s' => s' = s ∧ (∀ w ∈ rest, w ∈ ws) ∧ rest.foldl (fun acc w => putP acc (pairK w) (.bl true)) acc = dictOf ws) ?_ ⟨rfl, fun _ h => h, rfl⟩ ?_
                · rintro d rest acc s' ⟨rfl, hr, e⟩ k1 h1
                  obtain ⟨r, z, c, k, rfl⟩ := hws d (hr d List.mem_cons_self)
                  refine ⟨trivial, _, rfl, _, rfl, _, rfl, _, _, rfl, rfl, h1 _ _ ⟨rfl, fun w h => hr w (List.mem_cons_of_mem _ h), e⟩⟩
                · rintro acc s' ⟨rfl, _, e⟩
                  refine ⟨trivial, _, rfl, _, rfl, _, rfl, _, eq_ii, ?_⟩
                  have e2 : acc = dictOf ws := e
                  subst e2
                  have e3 : ((((dictOf ws).map (·.1)).length : Int) == (ws.length : Int)) = decide ((dictOf ws).length = ws.length) := by
                    rw [List.length_map]
                    by_cases z : (dictOf ws).length = ws.length
                    · rw [decide_eq_true z, z]; simp
                    · rw [decide_eq_false z]
                      have : ¬ ((dictOf ws).length : Int) = (ws.length : Int) := by omega
                      simpa using this
                  rw [e3]
                  exact q
            | _ => cases hj
      | _ => exact ⟨_, rfl, _, rfl, _, rfl, q⟩
    · have hl : xs.length ≠ 2 := fun h => h2 (by
        match xs, h with
        | [a, b], _ => exact ⟨a, b, rfl⟩)
      have hw : isBk (.tup xs) = false := by
        unfold isBk
        split
        · rename_i h; cases h; exact absurd ⟨_, _, rfl⟩ h2
        · rfl
      rw [hw] at q
      have hl' : (!(((xs.length : Nat) : Int) == 2)) = true := by
        have : ¬ ((xs.length : Nat) : Int) = 2 := by omega
        simp [this]
      refine ⟨_, rfl, _, rfl, _, rfl, _, rfl, _, rfl, _, ne_ii, _, rfl, ?_⟩
      rw [hl']
      exact q
  | _ => exact ⟨_, rfl, _, rfl, _, rfl, q⟩
end
end Bk
namespace Bk
open PySem PySem.Spec PyProof.Rows L2 Dl Fa
abbrev az : Str := "abcdefghijklmnopqrstuvwxyz"
abbrev AZ : Str := "ABCDEFGHIJKLMNOPQRSTUVWXYZ"
structure WordOk (K : Int) (r w : Str) (c k : Int) : Prop where
  r1 : sgnIn az r = true
  r2 : 1 ≤ r.length
  r3 : r.length ≤ 40
  w1 : sgnIn AZ w = true
  w2 : 1 ≤ w.length
  w3 : w.length ≤ 12
  c1 : 0 ≤ c
  c2 : c ≤ 1000000000000
  k1 : 0 ≤ k
  k2 : k < K
def IsW (K : Int) (x : D) : Prop := ∃ r w c k, x = .tup [.str r, .str w, .int c, .int k] ∧ WordOk K r w c k
def IsRow (n : Nat) (x : D) : Prop := ∃ js : List Int, x = .lst (js.map .int) ∧ js.length = n ∧ ∀ j ∈ js, 0 ≤ j ∧ j ≤ 1000000000000
structure BookOk (m : Nat) (ws rows : List D) : Prop where
  wl : ws.length ≤ m
  ww : ∀ w ∈ ws, IsW ((rows.length : Int) - 1) w
  wd : (ws.map pairK).Nodup
  r0 : rows ≠ []
  rl : rows.length ≤ 20
  rr : ∀ r ∈ rows, IsRow rows.length r
theorem IsW.wd {K : Int} {x : D} (h : IsW K x) : isWd x = true := by
  obtain ⟨r, w, c, k, rfl, h⟩ := h
  show (sgnF _ 40 (.str r) && (sgnF _ 12 (.str w) && (isCnt (.int c) && isCnt (.int k)))) = true
  have e1 : sgnF az 40 (.str r) = true := by
    show (sgnIn az r && (decide (1 ≤ (r.length : Int)) && decide ((r.length : Int) ≤ 40))) = true
    rw [h.r1, decide_eq_true (by have := h.r2; omega), decide_eq_true (by have := h.r3; omega)]; rfl
  have e2 : sgnF AZ 12 (.str w) = true := by
    show (sgnIn AZ w && (decide (1 ≤ (w.length : Int)) && decide ((w.length : Int) ≤ 12))) = true
    rw [h.w1, decide_eq_true (by have := h.w2; omega), decide_eq_true (by have := h.w3; omega)]; rfl
  have e3 : isCnt (.int c) = true := decide_eq_true h.c1
  have e4 : isCnt (.int k) = true := decide_eq_true h.k1
  rw [e1, e2, e3, e4]; rfl
theorem IsW.sz {K : Int} {x : D} (h : IsW K x) (hK : K ≤ 1000) : szB 100 x = true := by
  obtain ⟨r, w, c, k, rfl, h⟩ := h
  have := h.r3; have := h.w3; have := h.c1; have := h.c2; have := h.k1; have := h.k2
  have hB : 1000000000000 ≤ big := by decide
  refine sz_tup.mpr ⟨by show 4 ≤ 100; decide, fun y hy => ?_⟩
  rcases (by simpa using hy : y = D.str r ∨ y = .str w ∨ y = .int c ∨ y = .int k) with rfl | rfl | rfl | rfl
  · rw [sz_str]; omega
  · rw [sz_str]; omega
  · rw [sz_int]; omega
  · rw [sz_int]; omega
theorem IsRow.sz {n : Nat} {x : D} (h : IsRow n x) (hn : n ≤ 100) : szB 100 x = true := by
  obtain ⟨js, rfl, h1, h2⟩ := h
  have hB : 1000000000000 ≤ big := by decide
  refine sz_lst.mpr ⟨by rw [List.length_map]; omega, fun y hy => ?_⟩
  obtain ⟨j, hj, rfl⟩ := List.mem_map.mp hy
  have := h2 j hj
  rw [sz_int]; omega
theorem IsRow.ok {n : Nat} {x : D} (h : IsRow n x) : rowOk n x = true := by
  obtain ⟨js, rfl, h1, h2⟩ := h
  show (decide ((js.map D.int).length = n) && (js.map D.int).all isCnt) = true
  rw [decide_eq_true (by rw [List.length_map]; exact h1), Bool.true_and, List.all_eq_true]
  intro y hy
  obtain ⟨j, hj, rfl⟩ := List.mem_map.mp hy
  exact decide_eq_true (h2 j hj).1
theorem fold_new : ∀ (ws : List D) (acc : List (List Key × D)), (acc.map (·.1) ++ ws.map pairK).Nodup → (ws.foldl (fun acc w => putP acc (pairK w) (D.bl true)) acc).length = acc.length + ws.length
  | [], acc, _ => by simp
  | w :: ws, acc, h => by
    have hn : pairK w ∉ acc.map (·.1) := by
      intro z
      rw [List.map_cons, List.nodup_append] at h
      exact h.2.2 _ z _ List.mem_cons_self rfl
    have e : putP acc (pairK w) (D.bl true) = acc ++ [(pairK w, .bl true)] := by
      unfold putP
      rw [if_neg]
      intro z
      obtain ⟨p, hp, q⟩ := List.any_eq_true.mp z
      have q := of_decide_eq_true q
      exact hn (List.mem_map.mpr ⟨p, hp, q⟩)
    rw [List.foldl_cons, e, fold_new ws]
    · rw [List.length_append, List.length_cons]; simp; omega
    · rw [List.map_append, List.append_assoc]
      exact h
theorem BookOk.isBk {m : Nat} {ws rows : List D} (h : BookOk m ws rows) : isBk (.tup [.lst ws, .lst rows]) = true := by
  show (ws.all isWd && (isJn (.lst rows) && isBk2 ws (.lst rows))) = true
  have e1 : ws.all isWd = true := List.all_eq_true.mpr fun w hw => (h.ww w hw).wd
  have e2 : isJn (.lst rows) = true := by
    show (!decide (rows = []) && rows.all (rowOk rows.length)) = true
    rw [decide_eq_false h.r0, List.all_eq_true.mpr fun r hr => (h.rr r hr).ok]; rfl
  have e3 : isBk2 ws (.lst rows) = true := by
    show (ws.all (fun w => decide (kindOf w < (rows.length : Int) - 1)) && decide ((dictOf ws).length = ws.length)) = true
    have f1 : ws.all (fun w => decide (kindOf w < (rows.length : Int) - 1)) = true := List.all_eq_true.mpr fun w hw => by
      obtain ⟨r, z, c, k, rfl, o⟩ := h.ww w hw
      exact decide_eq_true o.k2
    have f2 : (dictOf ws).length = ws.length := by
      have := fold_new ws [] (by simpa using h.wd)
      unfold dictOf
      simpa using this
    rw [f1, decide_eq_true f2]; rfl
  rw [e1, e2, e3]; rfl
theorem BookOk.sz {m : Nat} {ws rows : List D} (h : BookOk m ws rows) (hm : m ≤ 1000) : szB 1000 (.tup [.lst ws, .lst rows]) = true := by
  have := h.wl; have := h.rl
  refine sz_tup.mpr ⟨by show 2 ≤ 1000; decide, fun y hy => ?_⟩
  rcases (by simpa using hy : y = D.lst ws ∨ y = .lst rows) with rfl | rfl
  · exact sz_lst.mpr ⟨by omega, fun w hw => szB_mono (by decide) _ ((h.ww w hw).sz (by omega))⟩
  · exact sz_lst.mpr ⟨by omega, fun r hr => szB_mono (by decide) _ ((h.rr r hr).sz (by omega))⟩
end Bk
namespace Fb
open PySem PySem.Spec PyProof.Rows L2 Dl Bk
open Fa (ifD ifB ifT ifF two three powOk10 fapp strL strL_length strL_cps txt_join_signs)
def pairD (x : D) : D := match x with
  | .tup (.str r :: .str w :: _) => .tup [.str r, .str w]
  | _ => .non
end Fb
namespace Fb
open PySem PySem.Spec PyProof.Rows L2 Dl Bk
open Fa (ifD ifB ifT ifF two three powOk10 fapp strL strL_length strL_cps txt_join_signs txt_join_cps strL_app str_eq)
theorem cps_len (r : Str) : r.cps.toList.length = r.length := by simp [Str.length]
end Fb
namespace Fb
open PySem PySem.Spec PyProof.Rows L2 Dl Bk
def chs (z : Str) : Bool := z.cps.toList.all fun c => decide (c < 128)
theorem chs_wide {z : Str} (h : chs z = true) : (z.cps.toList.all fun c => decide (c < 16 ^ 8)) = true := by
  unfold chs at h
  rw [List.all_eq_true] at *
  intro c hc
  have := of_decide_eq_true (h c hc)
  exact decide_eq_true (Nat.lt_of_lt_of_le this (by decide))
def gdD : List Key → List D → Bool
  | [], [] => true
  | [.inr z], [.int 1] => decide (z = "a")
  | _, _ => false
theorem gdD_iff {ks : List Key} {xs : List D} (h : gdD ks xs = true) : (ks = [] ∧ xs = []) ∨ (ks = [.inr "a"] ∧ xs = [.int 1]) := by
  unfold gdD at h
  split at h
  · exact .inl ⟨rfl, rfl⟩
  · rw [decide_eq_true_iff] at h
    subst h
    exact .inr ⟨rfl, rfl⟩
  · cases h
mutual
def gd (n : Nat) : D → Bool
  | .int i => decide (i.natAbs ≤ 10 ^ 20 + n)
  | .str z => decide (z.length ≤ n) && chs z
  | .tup xs => decide (xs.length ≤ n) && gdL n xs
  | .lst xs => decide (xs.length ≤ n) && gdL n xs
  | .non => true
  | .bl _ => true
  | .dk ks xs => gdD ks xs
  | .frl _ => false
  | .dt _ _ => false
  | .ref _ => false
  | .exc _ _ _ => false
def gdL (n : Nat) : List D → Bool
  | [] => true
  | x :: xs => gd n x && gdL n xs
end
theorem gdL_iff {n : Nat} : ∀ {xs : List D}, gdL n xs = true ↔ ∀ x ∈ xs, gd n x = true
  | [] => ⟨fun _ _ h => (nomatch h), fun _ => rfl⟩
  | x :: xs => by
    rw [gdL, Bool.and_eq_true, gdL_iff]
    exact ⟨fun h y hy => (List.mem_cons.mp hy).elim (fun e => e ▸ h.1) (h.2 y), fun h => ⟨h x List.mem_cons_self, fun y hy => h y (List.mem_cons_of_mem _ hy)⟩⟩
theorem gd_tup {n : Nat} {xs : List D} : gd n (.tup xs) = true ↔ xs.length ≤ n ∧ ∀ x ∈ xs, gd n x = true := by rw [gd, Bool.and_eq_true, gdL_iff, decide_eq_true_iff]
theorem gd_lst {n : Nat} {xs : List D} : gd n (.lst xs) = true ↔ xs.length ≤ n ∧ ∀ x ∈ xs, gd n x = true := by rw [gd, Bool.and_eq_true, gdL_iff, decide_eq_true_iff]
mutual
theorem gd_up {n m : Nat} (h : n ≤ m) : ∀ x : D, gd n x = true → gd m x = true
  | .int i, q => by rw [gd, decide_eq_true_iff] at *; omega
  | .str z, q => by rw [gd, Bool.and_eq_true, decide_eq_true_iff] at *; exact ⟨by omega, q.2⟩
  | .tup xs, q => by rw [gd, Bool.and_eq_true, decide_eq_true_iff] at *; exact ⟨by omega, gdL_up h xs q.2⟩
  | .lst xs, q => by rw [gd, Bool.and_eq_true, decide_eq_true_iff] at *; exact ⟨by omega, gdL_up h xs q.2⟩
  | .non, _ => by rw [gd]
  | .bl _, _ => by rw [gd]
  | .dk _ _, q => by rw [gd] at *; exact q
  | .frl _, q => by rw [gd] at q; cases q
  | .dt _ _, q => by rw [gd] at q; cases q
  | .ref _, q => by rw [gd] at q; cases q
  | .exc _ _ _, q => by rw [gd] at q; cases q
theorem gdL_up {n m : Nat} (h : n ≤ m) : ∀ xs : List D, gdL n xs = true → gdL m xs = true
  | [], _ => rfl
  | x :: xs, q => by
    rw [gdL, Bool.and_eq_true] at *
    exact ⟨gd_up h x q.1, gdL_up h xs q.2⟩
end
mutual
theorem gd_all {n : Nat} (hn : n ≤ 1000000) : ∀ x : D, gd n x = true → szB n x = true ∧ (pyE x).leavesShort 41 = true ∧ (pyE x).showable = true ∧ seqsE x = true
  | .int i, q => by
    rw [gd, decide_eq_true_iff] at q
    have hB : (10 : Nat) ^ 20 ≤ big := by decide
    have h40 : i.natAbs < 10 ^ 40 := by
      have : (10 : Nat) ^ 20 + 1000000 < 10 ^ 40 := by decide
      omega
    refine ⟨by rw [szB, decide_eq_true_iff]; omega, ?_, ?_, rfl⟩
    · rw [pyE, PyData.leavesShort]; exact decide_eq_true (int_short h40)
    · have ht : tame (.int i) = true := decide_eq_true h40
      have := (tame_of (.int i) ht).2.1
      rw [pyE]
      rw [pyD] at this
      exact this
  | .str z, q => by
    rw [gd, Bool.and_eq_true, decide_eq_true_iff] at q
    refine ⟨by rw [szB, decide_eq_true_iff]; exact q.1, ?_, ?_, rfl⟩
    · rw [pyE, PyData.leavesShort]; exact chs_wide q.2
    · rw [pyE]; simp only [PyData.showable]
  | .tup xs, q => by
    rw [gd, Bool.and_eq_true, decide_eq_true_iff] at q
    obtain ⟨h1, h2, h3, h4⟩ := gdL_all hn xs q.2
    refine ⟨by rw [szB, Bool.and_eq_true, decide_eq_true_iff]; exact ⟨q.1, h1⟩, ?_, ?_, h4⟩
    · rw [pyE, PyData.leavesShort]; exact h2
    · rw [pyE, PyData.showable]; exact h3
  | .lst xs, q => by
    rw [gd, Bool.and_eq_true, decide_eq_true_iff] at q
    obtain ⟨h1, h2, h3, h4⟩ := gdL_all hn xs q.2
    refine ⟨by rw [szB, Bool.and_eq_true, decide_eq_true_iff]; exact ⟨q.1, h1⟩, ?_, ?_, h4⟩
    · rw [pyE, PyData.leavesShort]; exact h2
    · rw [pyE, PyData.showable]; exact h3
  | .non, _ => ⟨rfl, by rw [pyE, PyData.leavesShort], by rw [pyE]; simp only [PyData.showable], rfl⟩
  | .bl _, _ => ⟨rfl, by rw [pyE, PyData.leavesShort], by rw [pyE]; simp only [PyData.showable], rfl⟩
  | .dk ks xs, q => by
    rw [gd] at q
    rcases gdD_iff q with ⟨rfl, rfl⟩ | ⟨rfl, rfl⟩
    · exact ⟨rfl, by decide +kernel, by decide +kernel, rfl⟩
    · exact ⟨rfl, by decide +kernel, by decide +kernel, by decide +kernel⟩
  | .frl _, q => by rw [gd] at q; cases q
  | .dt _ _, q => by rw [gd] at q; cases q
  | .ref _, q => by rw [gd] at q; cases q
  | .exc _ _ _, q => by rw [gd] at q; cases q
theorem gdL_all {n : Nat} (hn : n ≤ 1000000) : ∀ xs : List D, gdL n xs = true → szL n xs = true ∧ PyData.leavesShortAll 41 (pyEL xs) = true ∧ PyData.showableAll (pyEL xs) = true ∧ seqsEL xs = true
  | [], _ => ⟨rfl, by rw [pyEL, PyData.leavesShortAll], by rw [pyEL, PyData.showableAll], rfl⟩
  | x :: xs, q => by
    rw [gdL, Bool.and_eq_true] at q
    obtain ⟨a1, a2, a3, a4⟩ := gd_all hn x q.1
    obtain ⟨b1, b2, b3, b4⟩ := gdL_all hn xs q.2
    refine ⟨by rw [szL, a1, b1]; rfl, by rw [pyEL, PyData.leavesShortAll, a2, b2]; rfl, by rw [pyEL, PyData.showableAll, a3, b3]; rfl, by rw [seqsEL, a4, b4]; rfl⟩
end
structure Gd (n w d : Nat) (x : D) : Prop where
  g : gd n x = true
  w : (pyE x).bulk ≤ w
  d : (pyE x).depth ≤ d
theorem Gd.up {n w d n' w' d' : Nat} {x : D} (h : Gd n w d x) (h1 : n ≤ n') (h2 : w ≤ w') (h3 : d ≤ d') : Gd n' w' d' x := ⟨gd_up h1 x h.g, Nat.le_trans h.w h2, Nat.le_trans h.d h3⟩
theorem Gd.rp {n w d : Nat} {x : D} (h : Gd n w d x) (hn : n ≤ 1000000) (hw : w ≤ 300000) (hd : d ≤ 50) : rpOkE x = true := by
  obtain ⟨_, h2, h3, h4⟩ := gd_all hn x h.g
  have hb := PyData.shown_le_bulk 41 (by decide) (pyE x) h2
  have := h.w; have := h.d
  unfold rpOkE
  rw [h3, h4, Bool.true_and, Bool.true_and, Bool.and_eq_true_iff]
  exact ⟨decide_eq_true (by rw [sizeLine_eq]; omega), decide_eq_true (by omega)⟩
theorem bulkEL {w : Nat} : ∀ {xs : List D}, (∀ x ∈ xs, (pyE x).bulk ≤ w) → PyData.bulkAll (pyEL xs) ≤ (w + 1) * xs.length
  | [], _ => by rw [pyEL, PyData.bulkAll]; exact Nat.zero_le _
  | x :: xs, h => by
    have h1 := h x List.mem_cons_self
    have h2 := bulkEL (xs := xs) fun y hy => h y (List.mem_cons_of_mem _ hy)
    rw [pyEL, PyData.bulkAll, List.length_cons, Nat.mul_add, Nat.mul_one]; omega
theorem depthEL {d : Nat} : ∀ {xs : List D}, (∀ x ∈ xs, (pyE x).depth ≤ d) → PyData.depthAll (pyEL xs) ≤ d
  | [], _ => by rw [pyEL, PyData.depthAll]; exact Nat.zero_le _
  | x :: xs, h => by
    have h1 := h x List.mem_cons_self
    have h2 := depthEL (xs := xs) fun y hy => h y (List.mem_cons_of_mem _ hy)
    rw [pyEL, PyData.depthAll]; omega
theorem Gd.lst {n w d m : Nat} {xs : List D} (h : ∀ x ∈ xs, Gd n w d x) (hl : xs.length ≤ m) (hm : m ≤ n) : Gd n ((w + 1) * m) (d + 1) (.lst xs) := by
  refine ⟨gd_lst.mpr ⟨by omega, fun x hx => (h x hx).g⟩, ?_, ?_⟩
  · rw [pyE, PyData.bulk]
    exact Nat.le_trans (bulkEL fun x hx => (h x hx).w) (Nat.mul_le_mul (Nat.le_refl _) hl)
  · rw [pyE, PyData.depth]
    have := depthEL (xs := xs) fun x hx => (h x hx).d
    omega
theorem Gd.tup {n w d m : Nat} {xs : List D} (h : ∀ x ∈ xs, Gd n w d x) (hl : xs.length ≤ m) (hm : m ≤ n) : Gd n ((w + 1) * m) (d + 1) (.tup xs) := by
  refine ⟨gd_tup.mpr ⟨by omega, fun x hx => (h x hx).g⟩, ?_, ?_⟩
  · rw [pyE, PyData.bulk]
    exact Nat.le_trans (bulkEL fun x hx => (h x hx).w) (Nat.mul_le_mul (Nat.le_refl _) hl)
  · rw [pyE, PyData.depth]
    have := depthEL (xs := xs) fun x hx => (h x hx).d
    omega
theorem Gd.int {n : Nat} {i : Int} (h : i.natAbs ≤ 10 ^ 20 + n) : Gd n 0 0 (.int i) := ⟨decide_eq_true h, by rw [pyE, PyData.bulk]; exact Nat.le_refl _, by rw [pyE]; simp [PyData.depth]⟩
theorem Gd.str {n : Nat} {z : Str} (h : z.length ≤ n) (hc : chs z = true) : Gd n n 0 (.str z) := ⟨by rw [gd, hc, decide_eq_true h]; rfl, by rw [pyE, PyData.bulk]; exact h, by rw [pyE]; simp [PyData.depth]⟩
theorem Gd.bl {n : Nat} {b : Bool} : Gd n 0 0 (.bl b) := ⟨rfl, by rw [pyE, PyData.bulk]; exact Nat.le_refl _, by rw [pyE]; simp [PyData.depth]⟩
end Fb
namespace Fb
open PySem PySem.Spec PyProof.Rows L2 Dl Bk
theorem chs_of {z : Str} (h : ∀ c ∈ z.cps.toList, c < 128) : chs z = true := by
  unfold chs
  rw [List.all_eq_true]
  exact fun c hc => decide_eq_true (h c hc)
theorem of_chs {z : Str} (h : chs z = true) : ∀ c ∈ z.cps.toList, c < 128 := by
  unfold chs at h
  rw [List.all_eq_true] at h
  exact fun c hc => of_decide_eq_true (h c hc)
theorem digit_small {c : Char} (h : c.isDigit = true) : c.toNat < 128 := by
  unfold Char.isDigit at h
  simp only [Bool.and_eq_true, decide_eq_true_eq] at h
  have h2 := h.2
  have : c.val.toNat ≤ 57 := by
    have := UInt32.le_iff_toNat_le.mp h2
    simpa using this
  show c.val.toNat < 128
  omega
theorem chs_nat (n : Nat) : ∀ c ∈ n.repr.toList, c.toNat < 128 := by
  have e : n.repr.toList = Nat.toDigits 10 n := by simp [Nat.repr]
  rw [e]
  exact fun c hc => digit_small (Nat.isDigit_of_mem_toDigits (by decide) (by decide) hc)
theorem chs_int (i : Int) : chs (Str.ofString (toString i)) = true := by
  refine chs_of fun c hc => ?_
  rw [signs_ofString] at hc
  obtain ⟨d, hd, rfl⟩ := List.mem_map.mp hc
  cases i with
  | ofNat m => exact chs_nat m d hd
  | negSucc m =>
    have e : (toString (Int.negSucc m)) = "-" ++ m.succ.repr := rfl
    rw [e, String.toList_append] at hd
    rcases List.mem_append.mp hd with hd | hd
    · have : d = '-' := by simpa using hd
      rw [this]; decide
    · exact chs_nat _ d hd
theorem int_len {i : Int} (h : i.natAbs < 10 ^ 40) : (Str.ofString (toString i)).length ≤ 41 := by
  have := int_short h
  simpa only [PyData.shown] using this
end Fb
namespace Fb
open PySem PySem.Spec PyProof.Rows L2 Dl Bk
theorem bl_len (b : Bool) : (if b = true then Str.ofString "True" else Str.ofString "False").length ≤ 41 := by cases b <;> decide
def bk (xs : List D) : Nat := PyData.bulkAll (pyEL xs)
theorem bk_cons (x : D) (xs : List D) : bk (x :: xs) = (pyE x).bulk + 1 + bk xs := by unfold bk; rw [pyEL, PyData.bulkAll]
theorem bk_nil : bk [] = 0 := by unfold bk; rw [pyEL, PyData.bulkAll]
theorem bk_app : ∀ xs ys : List D, bk (xs ++ ys) = bk xs + bk ys
  | [], ys => by rw [bk_nil]; simp
  | x :: xs, ys => by rw [List.cons_append, bk_cons, bk_cons, bk_app xs ys]; omega
theorem bk_cut (xs : List D) (p : Nat) : bk (xs.take p) + bk (xs.drop p) = bk xs := by rw [← bk_app, List.take_append_drop]
theorem bk_rev : ∀ xs : List D, bk xs.reverse = bk xs
  | [] => rfl
  | x :: xs => by rw [List.reverse_cons, bk_app, bk_rev xs, bk_cons, bk_cons, bk_nil]; omega
theorem bk_mem {x : D} : ∀ {xs : List D}, x ∈ xs → (pyE x).bulk + 1 ≤ bk xs
  | y :: ys, h => by
    rw [bk_cons]
    rcases List.mem_cons.mp h with rfl | h
    · omega
    · have := bk_mem h; omega
theorem bulk_lst (xs : List D) : (pyE (.lst xs)).bulk = bk xs := by rw [pyE, PyData.bulk]; rfl
theorem bulk_tup (xs : List D) : (pyE (.tup xs)).bulk = bk xs := by rw [pyE, PyData.bulk]; rfl
theorem Gd.rowL {n w d B : Nat} {xs : List D} (h : ∀ x ∈ xs, Gd n w d x) (hl : xs.length ≤ n) (hb : bk xs ≤ B) : Gd n B (d + 1) (.lst xs) :=
  ⟨gd_lst.mpr ⟨hl, fun x hx => (h x hx).g⟩, by rw [bulk_lst]; exact hb, by
    rw [pyE, PyData.depth]
    have := depthEL (xs := xs) fun x hx => (h x hx).d
    omega⟩
theorem Gd.rowT {n w d B : Nat} {xs : List D} (h : ∀ x ∈ xs, Gd n w d x) (hl : xs.length ≤ n) (hb : bk xs ≤ B) : Gd n B (d + 1) (.tup xs) :=
  ⟨gd_tup.mpr ⟨hl, fun x hx => (h x hx).g⟩, by rw [bulk_tup]; exact hb, by
    rw [pyE, PyData.depth]
    have := depthEL (xs := xs) fun x hx => (h x hx).d
    omega⟩
theorem chs_sgn {r z : Str} (hr : chs r = true) (h : sgnIn r z = true) : chs z = true := by
  refine chs_of fun c hc => of_chs hr c ?_
  unfold sgnIn at h
  rw [List.all_eq_true] at h
  exact of_decide_eq_true (h c hc)
end Fb
namespace Fa
open PySem PySem.Spec PyProof.Rows L2 Dl Bk
theorem StT.len {b : Int} {tl s : Sto} (h : StT b tl s) : s.length = tl.length + 2 := by
  obtain ⟨xs, st, n, rfl, _⟩ := h; rfl
theorem StT.app {b : Int} {tl s : Sto} (h : StT b tl s) {o : Option MO} : StT b (tl ++ [o]) (s ++ [o]) := by
  obtain ⟨xs, st, n, rfl, r⟩ := h; exact ⟨xs, st, n, rfl, r⟩
theorem StT.get {b : Int} {tl s : Sto} (h : StT b tl s) (i : Nat) : s[i + 2]? = tl[i]? := by
  obtain ⟨xs, st, n, rfl, r⟩ := h; rfl
theorem StT.set {b : Int} {tl s : Sto} (h : StT b tl s) (i : Nat) (o : Option MO) : StT b (tl.set i o) (s.set (i + 2) o) := by
  obtain ⟨xs, st, n, rfl, r⟩ := h; exact ⟨xs, st, n, rfl, r⟩
theorem get_last {tl : Sto} {o : Option MO} : (tl ++ [o])[tl.length]? = some o := by simp
theorem set_last {tl : Sto} {o o' : Option MO} : (tl ++ [o]).set tl.length o' = tl ++ [o'] := by simp
theorem get_two {tl : Sto} {o p : Option MO} : (tl ++ [o, p])[tl.length + 1]? = some p := by simp
theorem get_two0 {tl : Sto} {o p : Option MO} : (tl ++ [o, p])[tl.length]? = some o := by simp
theorem set_two {tl : Sto} {o p p' : Option MO} : (tl ++ [o, p]).set (tl.length + 1) p' = tl ++ [o, p'] := by
  rw [List.set_append_right _ _ (by omega)]
  simp
theorem set_two0 {tl : Sto} {o p p' : Option MO} : (tl ++ [o, p]).set tl.length p' = tl ++ [p', p] := by simp
structure WDict (K : Int) (es : List (List Key × D)) : Prop where
  ok : ∀ p ∈ es, IsW K p.2 ∧ pairK p.2 = p.1
  nd : (es.map (·.1)).Nodup
theorem WDict.put {K : Int} {es : List (List Key × D)} {v : D} (h : WDict K es) (hv : IsW K v) : WDict K (putP es (pairK v) v) := by
  unfold putP
  split
  · refine ⟨fun p hp => ?_, ?_⟩
    · obtain ⟨q, hq, rfl⟩ := List.mem_map.mp hp
      by_cases e : q.1 = pairK v
      · rw [if_pos e]; exact ⟨hv, e.symm⟩
      · rw [if_neg e]; exact h.ok q hq
    · have : (es.map fun p => if p.1 = pairK v then (p.1, v) else p).map (·.1) = es.map (·.1) := by
        rw [List.map_map]
        refine List.map_congr_left fun p _ => ?_
        show (if p.1 = pairK v then (p.1, v) else p).1 = p.1
        split <;> rfl
      rw [this]; exact h.nd
  · rename_i hn
    refine ⟨fun p hp => ?_, ?_⟩
    · rcases List.mem_append.mp hp with hp | hp
      · exact h.ok p hp
      · rw [List.mem_singleton.mp hp]; exact ⟨hv, rfl⟩
    · rw [List.map_append, List.nodup_append]
      refine ⟨h.nd, by simp, fun a ha c hc e => ?_⟩
      obtain ⟨p, hp, rfl⟩ := List.mem_map.mp ha
      have hc' : c = pairK v := by simpa using hc
      exact hn (List.any_eq_true.mpr ⟨p, hp, decide_eq_true (e.trans hc')⟩)
theorem WDict.keys {K : Int} {es : List (List Key × D)} (h : WDict K es) : (es.map (·.2)).map pairK = es.map (·.1) := by
  rw [List.map_map]
  exact List.map_congr_left fun p hp => (h.ok p hp).2
theorem sgn_sub {z r : Str} {l : List Nat} (hz : sgnIn r z = true) (h : ∀ c ∈ l, c ∈ z.cps.toList) : sgnIn r (strL l) = true := by
  unfold sgnIn at hz ⊢
  rw [List.all_eq_true] at hz ⊢
  intro c hc
  exact hz c (h c hc)
def sp__law_book : SpD := fun ds s Q _ => ∃ (b : Int) (tl : Sto) (most : Int), ds = [.ref 1, .int most] ∧ StT b tl s ∧ b ≤ 90000000 ∧ 0 ≤ most ∧ most ≤ 200 ∧
  ∀ ws rows u s', BookOk most.toNat ws rows → rows.length ≤ 9 → StT (b + 500000) (tl ++ u) s' → Q (.tup [.lst ws, .lst rows]) s'
def b__law_book : SD := (dSeq (dAsg (dBin (oF idxF) (dLst (dCons (dC (.str "ab")) (dCons (dC (.str "a")) (dCons (dC (.str "abcdefghijklmnopqrstuvwxyz")) dNil)))) (dCall sp__law_dip [] (dCons (dVar 0) (dCons (dC (.int 3)) dNil)))) (gN 2))
  (dSeq (dAsg (dBin (oF idxF) (dLst (dCons (dC (.str "AB")) (dCons (dC (.str "ABCDEFGHIJKLMNOPQRSTUVWXYZ")) dNil))) (dCall sp__law_dip [] (dCons (dVar 0) (dCons (dC (.int 2)) dNil)))) (gN 3))
  (dSeq (dAsg (dBin (oF idxF) (dLst (dCons (dC (.int 2)) (dCons (dC (.int 4)) (dCons (dC (.int 40)) dNil)))) (dCall sp__law_dip [] (dCons (dVar 0) (dCons (dC (.int 3)) dNil)))) (gN 4))
  (dSeq (dAsg (dBin (oF idxF) (dLst (dCons (dC (.int 1)) (dCons (dC (.int 2)) (dCons (dC (.int 3)) (dCons (dC (.int 8)) (dCons (dC (.int 0)) dNil)))))) (dCall sp__law_dip [] (dCons (dVar 0) (dCons (dC (.int 5)) dNil)))) (gN 5))
  (dSeq (dAsg (dNew dNil) (gN 6))
  (dSeq (dFor (iR1 (dCons (dBin (oF addF) (dVar 5) (dC (.int 1))) dNil)) (gN 7) (dDrop (dMt fAppend (dVar 6) (dCons (dLc (iR1 (dCons (dBin (oF addF) (dVar 5) (dC (.int 1))) dNil)) (CT.g (.one 10)) dYes (dCall sp__law_cost [] (dCons (dVar 0) dNil)) [10]) dNil))))
  (dSeq (dAsg dDNewT (gN 8))
  (dSeq (dFor (iR1 (dCons (dBin oMul (dCall sp__law_dip [] (dCons (dVar 0) (dCons (dBin (oF addF) (dVar 1) (dC (.int 1))) dNil))) (dCB intF (dCons (dBin (oF gtBF) (dVar 5) (dC (.int 0))) dNil))) dNil)) (gN 7) (dSeq (dAsg (dTup (dCons (dCall sp__law_text [] (dCons (dVar 0) (dCons (dVar 2) (dCons (dVar 4) dNil)))) (dCons (dCall sp__law_text [] (dCons (dVar 0) (dCons (dVar 3) (dCons (dC (.int 12)) dNil)))) dNil))) (gN 9))
  (dDPut (dVar 8) (dVar 9) (dBin (oF addF) (dVar 9) (dTup (dCons (dCall sp__law_cost [] (dCons (dVar 0) dNil)) (dCons (dCall sp__law_dip [] (dCons (dVar 0) (dCons (dVar 5) dNil))) dNil)))))))
  (dRet (dTup (dCons (dListV (dVar 8)) (dCons (dFrz (dVar 6)) dNil))))))))))))
theorem mono__law_book : MonoSp sp__law_book := fun _ _ _ _ _ _ f _ ⟨b, tl, m, h1, h2, h3, h4, h5, h⟩ => ⟨b, tl, m, h1, h2, h3, h4, h5, fun ws rows u s' a1 a2 a3 => f _ _ (h ws rows u s' a1 a2 a3)⟩
theorem len__law_book : ∀ ds s Q E, sp__law_book ds s Q E → ds.length = ["pot", "most"].length := fun _ _ _ _ ⟨_, _, _, h, _⟩ => by rw [h]; rfl
section
variable (ds : List D) (s : Sto) (Q : D → Sto → Prop) (E : XD)
theorem pf__law_book (h : sp__law_book ds s Q E) : b__law_book (endsOf Q) (envD ["pot", "most", "small", "large", "long", "kinds", "joins", "k", "words", "pair", "j"] ds) s := by
  obtain ⟨b, tl, most, rfl, S, hb, m0, m1, q⟩ := h
  have hr : ∀ a n, (rangeD a n).length = n := fun a n => by simp [rangeD]
  refine ⟨Dl.ll, _, rfl, b, tl, 3, rfl, S, by omega, by decide, by decide, fun i1 s1 a1 b1 S1 => ?_⟩
  obtain ⟨x, hx, hm⟩ := three (a := D.str "ab") (b := D.str "a") (c := D.str "abcdefghijklmnopqrstuvwxyz") a1 b1
  obtain ⟨small, rfl, hs⟩ : ∃ z : Str, x = .str z ∧ 1 ≤ z.length ∧ z.length ≤ 26 ∧ sgnIn az z = true := by
    rcases hm with rfl | rfl | rfl
    · exact ⟨_, rfl, by decide +kernel⟩
    · exact ⟨_, rfl, by decide +kernel⟩
    · exact ⟨_, rfl, by decide +kernel⟩
  refine ⟨_, hx, Dl.ll, _, rfl, _, tl, 2, rfl, S1, by omega, by decide, by decide, fun i2 s2 a2 b2 S2 => ?_⟩
  obtain ⟨x, hx, hm⟩ := atI_mem (xs := [D.str "AB", D.str "ABCDEFGHIJKLMNOPQRSTUVWXYZ"]) a2 (by simpa using b2)
  obtain ⟨large, rfl, hL⟩ : ∃ z : Str, x = .str z ∧ 1 ≤ z.length ∧ z.length ≤ 26 ∧ sgnIn AZ z = true := by
    rcases (by simpa using hm : x = D.str "AB" ∨ x = D.str "ABCDEFGHIJKLMNOPQRSTUVWXYZ") with rfl | rfl
    · exact ⟨_, rfl, by decide +kernel⟩
    · exact ⟨_, rfl, by decide +kernel⟩
  refine ⟨_, hx, Dl.ll, _, rfl, _, tl, 3, rfl, S2, by omega, by decide, by decide, fun i3 s3 a3 b3 S3 => ?_⟩
  obtain ⟨x, hx, hm⟩ := three (a := D.int 2) (b := D.int 4) (c := D.int 40) a3 b3
  obtain ⟨long, rfl, hg1, hg2⟩ : ∃ z : Int, x = .int z ∧ 1 ≤ z ∧ z ≤ 40 := by
    rcases hm with rfl | rfl | rfl <;> exact ⟨_, rfl, by decide, by decide⟩
  refine ⟨_, hx, Dl.ll, _, rfl, _, tl, 5, rfl, S3, by omega, by decide, by decide, fun i4 s4 a4 b4 S4 => ?_⟩
  obtain ⟨x, hx, hm⟩ := atI_mem (xs := [D.int 1, .int 2, .int 3, .int 8, .int 0]) a4 (by simpa using b4)
  obtain ⟨kinds, rfl, k0, k1⟩ : ∃ z : Int, x = .int z ∧ 0 ≤ z ∧ z ≤ 8 := by
    rcases (by simpa using hm : x = D.int 1 ∨ x = .int 2 ∨ x = .int 3 ∨ x = .int 8 ∨ x = .int 0) with rfl | rfl | rfl | rfl | rfl <;> exact ⟨_, rfl, by decide, by decide⟩
  refine ⟨_, hx, Nat.zero_le _, ?_⟩
  have S5 := S4.app (o := some (.lst []))
  refine ⟨_, rfl, _, rfl, _, rfl, by omega, by omega, ?_⟩
  have L4 := S4.len
  refine forD_run (fun rest env s2 => ∃ (rows : List D) (k : Option D), env = [some (.ref 1), some (.int most), some (.str small), some (.str large), some (.int long), some (.int kinds), some (.ref (tl.length + 2)), k, none, none, none] ∧
      (∀ r ∈ rows, IsRow (kinds + 1).toNat r) ∧ rows.length + rest.length = (kinds + 1).toNat ∧ StT (b + 2000 - 100 * rest.length) (tl ++ [some (.lst rows)]) s2) ?_ ?_ ?_
  · rintro d rest env s2 ⟨rows, k, rfl, hR, hl2, S8⟩ N hN
    rw [List.length_cons] at hl2 S8
    refine ⟨trivial, ?_⟩
    have g8 := (S8.get tl.length).trans get_last
    refine ⟨_, rfl, _, _, rfl, g8, ?_⟩
    refine ⟨_, rfl, _, rfl, _, rfl, by omega, by omega, le_line (by rw [hr]; omega), ?_⟩
    refine lcD_run (fun rs acc s3 => ∃ js : List Int, acc = js.map .int ∧ rs.length + js.length = (kinds + 1).toNat ∧ (∀ j ∈ js, 0 ≤ j ∧ j ≤ 1000000000000) ∧ StT (b + 2000 - 100 * ((rest.length + 1 : Nat) : Int) + 10 * js.length) (tl ++ [some (.lst rows)]) s3) ?_ (acc := []) ⟨[], rfl, by rw [hr]; simp, (fun _ h => nomatch h), S8.up (by simp)⟩ ?_
    · rintro e rs acc s3 ⟨js, rfl, hj, hjs, S9⟩ k1 k0 h1 h0
      rw [List.length_cons] at hj
      refine ⟨trivial, ?_⟩
      refine ⟨_, rfl, _, _, rfl, S9, by omega, fun v s11 v0 v1 S11 => ?_⟩
      refine h1 _ _ ⟨js ++ [v], by simp, by simp; omega, fun u hu => ?_, S11.up (by push_cast; simp; omega)⟩
      rcases List.mem_append.mp hu with h | h
      · exact hjs u h
      · rw [List.mem_singleton.mp h]; exact ⟨v0, by omega⟩
    · rintro ys s3 ⟨js, hys, hj, hjs, S9⟩
      rw [List.nil_append] at hys
      subst hys
      have hj' : js.length = (kinds + 1).toNat := by simpa using hj
      have g9 := (S9.get tl.length).trans get_last
      refine ⟨trivial, _, _, _, g9, fapp (Nat.lt_of_lt_of_le (by omega : rows.length < 1000) (le_line (by decide))), ?_⟩
      have S10 := S9.set tl.length (some (.lst (rows ++ [.lst (js.map .int)])))
      rw [set_last] at S10
      refine hN _ _ ⟨rows ++ [.lst (js.map .int)], _, rfl, fun r hr => ?_, by rw [List.length_append, List.length_singleton]; omega, S10.up (by push_cast; omega)⟩
      rcases List.mem_append.mp hr with h | h
      · exact hR r h
      · rw [List.mem_singleton.mp h]; exact ⟨js, rfl, hj', hjs⟩
  · rintro env s2 ⟨rows, k, rfl, hR, hl2, S8⟩
    rw [List.length_nil] at hl2 S8
    refine ⟨trivial, ?_⟩
    have S9 := S8.app (o := some (DV.t []).mo)
    rw [List.append_assoc] at S9
    have L8 := S8.len
    rw [List.length_append, List.length_singleton] at L8
    refine ⟨_, rfl, _, rfl, _, rfl, _, _, _, rfl, S9, by omega, by omega, by omega, fun i6 s6 a6 b6 S6 => ?_⟩
    obtain ⟨jb, hjb, j0, j1⟩ : ∃ jb : Int, b2n (decide (0 < kinds)) = jb ∧ 0 ≤ jb ∧ jb ≤ 1 := by
      refine ⟨_, rfl, ?_, ?_⟩
      · cases decide (0 < kinds) <;> decide
      · cases decide (0 < kinds) <;> decide
    have hj1 : 0 < i6 * jb → 0 < kinds := fun h => by
      by_cases hk : 0 < kinds
      · exact hk
      · rw [decide_eq_false hk] at hjb
        have : jb = 0 := hjb.symm
        subst this; simp at h
    have hj2 : i6 * jb ≤ i6 := by
      have : i6 * jb ≤ i6 * 1 := Int.mul_le_mul_of_nonneg_left j1 a6
      omega
    have hj3 : 0 ≤ i6 * jb := Int.mul_nonneg a6 j0
    refine ⟨_, rfl, _, rfl, _, rfl, .inl ⟨_, _, rfl, rfl, IntMulOk.of_right (by rw [hjb]; exact intBits_le_iff.mpr (by omega)), i6 * b2n (decide (0 < kinds)), rfl, by rw [hjb]; omega, by rw [hjb]; omega, ?_⟩⟩
    rw [hjb]
    generalize i6 * jb = n at hj1 hj2 hj3
    have hrl : rows.length = (kinds + 1).toNat := by omega
    refine forD_run (fun rest env s' => ∃ (es : List (List Key × D)) (k pr : Option D), env = [some (.ref 1), some (.int most), some (.str small), some (.str large), some (.int long), some (.int kinds), some (.ref (tl.length + 2)), k, some (.ref (tl.length + 3)), pr, none] ∧
      WDict kinds es ∧ ((es.length + rest.length : Nat) : Int) ≤ n ∧ StT (b + 3000 + 2100 * (n - rest.length)) (tl ++ [some (.lst rows), some (DV.t es).mo]) s') ?_ ?_ ?_
    · rintro d rest env s' ⟨es, k, pr, rfl, hW, hl, S7⟩ N hN
      rw [List.length_cons] at hl S7
      have hk : 0 < kinds := hj1 (by omega)
      refine ⟨trivial, ?_⟩
      refine ⟨_, rfl, _, rfl, _, rfl, _, _, small, long, rfl, S7, by omega, hs.1, by omega, hg1, by omega, fun l1 s8 c1 c2 c3 S8 => ?_⟩
      refine ⟨_, rfl, _, rfl, _, _, large, 12, rfl, S8, by omega, hL.1, by omega, by decide, by decide, fun l2 s9 d1 d2 d3 S9 => ?_⟩
      refine ⟨Dl.ll, ?_⟩
      refine ⟨_, rfl, _, rfl, _, _, rfl, S9, by omega, fun c s10 e1 e2 S10 => ?_⟩
      refine ⟨_, rfl, _, rfl, _, _, kinds, rfl, S10, by omega, by omega, by omega, fun kd s11 f1 f2 S11 => ?_⟩
      refine ⟨Dl.ll, _, addt Dl.ll, ?_⟩
      have g11 := (S11.get (tl.length + 1)).trans get_two
      have hw : IsW kinds (.tup [.str (strL l1), .str (strL l2), .int c, .int kd]) := ⟨_, _, _, _, rfl, ⟨sgn_sub hs.2.2 c3, by rw [strL_length]; omega, by rw [strL_length]; omega, sgn_sub hL.2.2 d3, by rw [strL_length]; omega, by rw [strL_length]; omega, e1, by omega, f1, f2⟩⟩
      refine ⟨_, rfl, _, rfl, _, .t es, .t (putP es (pairK (.tup [.str (strL l1), .str (strL l2), .int c, .int kd])) (.tup [.str (strL l1), .str (strL l2), .int c, .int kd])), rfl, dictM_mo g11, rfl, Nat.lt_of_le_of_lt (by show es.length ≤ 1000; omega) (Nat.lt_of_lt_of_le (by decide : 1000 < 100000) (le_line (by decide))), ?_⟩
      have S12 := S11.set (tl.length + 1) (some (DV.t (putP es (pairK (.tup [.str (strL l1), .str (strL l2), .int c, .int kd])) (.tup [.str (strL l1), .str (strL l2), .int c, .int kd]))).mo)
      rw [set_two] at S12
      have pl := putP_len es (pairK (.tup [.str (strL l1), .str (strL l2), .int c, .int kd])) (D.tup [.str (strL l1), .str (strL l2), .int c, .int kd])
      exact hN _ _ ⟨_, _, _, rfl, hW.put hw, by omega, S12.up (by push_cast; omega)⟩
    · rintro env s' ⟨es, k, pr, rfl, hW, hl, S7⟩
      rw [List.length_nil] at hl S7
      refine ⟨trivial, ?_⟩
      have g7 := (S7.get (tl.length + 1)).trans get_two
      have g70 := (S7.get tl.length).trans get_two0
      refine ⟨_, rfl, .t es, dictD_mo g7, ?_⟩
      refine ⟨_, rfl, _, _, rfl, g70, Dl.ll, ?_⟩
      have S8 := S7.set tl.length none
      rw [set_two0] at S8
      refine q _ rows _ _ ⟨by show (es.map (·.2)).length ≤ _; rw [List.length_map]; omega, fun w hw => ?_, ?_, fun e => by rw [e] at hrl; simp at hrl; omega, by omega, fun r hr => by rw [hrl]; exact hR r hr⟩ (by omega) (S8.up (by omega))
      · obtain ⟨p, hp, rfl⟩ := List.mem_map.mp hw
        have := (hW.ok p hp).1
        rw [hrl, show (((kinds + 1).toNat : Nat) : Int) - 1 = kinds by omega]
        exact this
      · show ((es.map (·.2)).map pairK).Nodup
        rw [hW.keys]; exact hW.nd
    · refine ⟨[], k, none, ?_, ⟨(fun _ h => nomatch h), List.nodup_nil⟩, by rw [hr]; simp; omega, S6.up (by rw [hr]; omega)⟩
      rw [L8]; rfl
  · refine ⟨[], none, ?_, (fun _ h => nomatch h), by rw [hr]; simp, S5.up (by rw [hr]; omega)⟩
    rw [L4]; rfl
end
end Fa
namespace Fg
open PySem PySem.Spec PyProof.Rows L2 Dl Bk
open Fb (gd gdL gd_tup gd_lst Gd Gd.up Gd.int Gd.str Gd.bl Gd.rowT Gd.rowL bk bk_cons bk_nil bk_app bk_rev bk_mem bk_cut bulk_tup bulk_lst chs int_len bl_len chs_int cps_len)
open Fa hiding sp__law_odd sp__law_bent_end sp__law_bentN b__law_odd b__law_bent_end b__law_bent mono__law_odd len__law_odd mono__law_bent_end len__law_bent_end mono__law_bent len__law_bent bent_lt2 bent_in bent_int pf__law_bent_end bent_out bent_seq pf__law_bent0 pf__law_bentS pf__law_odd odds_ok
theorem strF_any {s : Sto} {i : Int} (h : i.natAbs < 10 ^ 40) : strF s [.int i] = some (.str (Str.ofString (toString i))) := by
  have : i.natAbs.log2 < 1920 := by
    rcases Nat.eq_zero_or_pos i.natAbs with z | z
    · rw [z]; decide
    · exact (Nat.log2_lt (by omega)).mpr (Nat.lt_trans h (by decide))
  rw [str_i, if_pos this]
theorem chs_mem {z : Str} (h : chs z = true) {c : Nat} (hc : c ∈ z.cps.toList) : c < 128 := of_decide_eq_true (List.all_eq_true.mp h c hc)
theorem chs_strL {l : List Nat} (h : ∀ c ∈ l, c < 128) : chs (strL l) = true := by
  refine List.all_eq_true.mpr fun c hc => decide_eq_true (h c ?_)
  rwa [strL_cps] at hc
theorem bk_sub {xs ys : List D} (h : ys.Sublist xs) : bk ys ≤ bk xs := by
  induction h with
  | slnil => exact Nat.le_refl _
  | cons _ _ ih => rw [bk_cons]; omega
  | cons_cons _ _ ih => rw [bk_cons, bk_cons]; omega
theorem bk_out (xs : List D) (i j : Nat) (h : i ≤ j) : bk (xs.take i ++ xs.drop j) ≤ bk xs := by
  rw [bk_app]
  have h1 := bk_cut xs i
  have h2 := bk_sub (List.drop_sublist_drop_left xs h)
  omega
theorem bk_twice (xs : List D) (i j : Nat) : bk (xs.take i ++ (xs.take j).drop i ++ xs.drop i) ≤ 2 * bk xs := by
  rw [bk_app, bk_app]
  have h1 := bk_cut xs i
  have h2 := bk_sub ((List.drop_sublist i (xs.take j)).trans (List.take_sublist j xs))
  omega
theorem bk_put (xs : List D) (i : Nat) (y : D) : bk (xs.take i ++ [y] ++ xs.drop i) = bk xs + (pyE y).bulk + 1 := by
  rw [bk_app, bk_app, bk_cons, bk_nil]
  have h1 := bk_cut xs i
  omega
theorem bk_at (xs : List D) (i : Nat) (h : i < xs.length) : bk (xs.take i) + ((xs[i]?).map fun y => (pyE y).bulk).getD 0 + 1 + bk (xs.drop (i + 1)) = bk xs := by
  have e : xs = xs.take i ++ xs[i] :: xs.drop (i + 1) := by rw [List.getElem_cons_drop, List.take_append_drop]
  rw [List.getElem?_eq_getElem h]
  conv => rhs; rw [e]
  rw [bk_app, bk_cons]
  simp only [Option.map, Option.getD]
  omega
theorem depth_mem {x : D} : ∀ {xs : List D}, x ∈ xs → (pyE x).depth ≤ PyData.depthAll (pyEL xs)
  | [], h => nomatch h
  | y :: ys, h => by
    rw [pyEL, PyData.depthAll]
    rcases List.mem_cons.mp h with rfl | h
    · exact Nat.le_max_left _ _
    · exact Nat.le_trans (depth_mem h) (Nat.le_max_right _ _)
end Fg
namespace Fh
open PySem PySem.Spec PyProof.Rows L2 Dl Bk
open Fb (gd gdL gd_tup gd_lst bk bk_cons bk_nil bk_app bk_rev bk_mem bk_cut bulk_tup bulk_lst chs int_len bl_len chs_int cps_len)
open Fg (strF_any chs_mem chs_strL bk_sub bk_out bk_twice bk_put bk_at depth_mem)
open Fa hiding sp__law_odd sp__law_bent_end sp__law_bentN b__law_odd b__law_bent_end b__law_bent mono__law_odd len__law_odd mono__law_bent_end len__law_bent_end mono__law_bent len__law_bent bent_lt2 bent_in bent_int pf__law_bent_end bent_out bent_seq pf__law_bent0 pf__law_bentS pf__law_odd odds_ok
mutual
def um : D → Bool
  | .int i => decide (i ≤ 1000000000000)
  | .tup xs => umL xs
  | .lst xs => umL xs
  | .str _ => true
  | .non => true
  | .bl _ => true
  | .dk _ xs => umL xs
  | .frl _ => true
  | .dt _ _ => true
  | .ref _ => true
  | .exc _ _ _ => true
def umL : List D → Bool
  | [] => true
  | x :: xs => um x && umL xs
end
mutual
def pn : D → Bool
  | .int i => decide (0 ≤ i)
  | .tup xs => pnL xs
  | .lst xs => pnL xs
  | .str _ => true
  | .non => true
  | .bl _ => true
  | .dk _ xs => pnL xs
  | .frl _ => true
  | .dt _ _ => true
  | .ref _ => true
  | .exc _ _ _ => true
def pnL : List D → Bool
  | [] => true
  | x :: xs => pn x && pnL xs
end
mutual
def ls (n : Nat) : D → Bool
  | .int _ => true
  | .tup xs => decide (xs.length ≤ n - 31) && lsL n xs
  | .lst xs => decide (xs.length ≤ n - 31) && lsL n xs
  | .str _ => true
  | .non => true
  | .bl _ => true
  | .dk _ xs => decide (xs.length ≤ n - 31) && lsL n xs
  | .frl _ => true
  | .dt _ _ => true
  | .ref _ => true
  | .exc _ _ _ => true
def lsL (n : Nat) : List D → Bool
  | [] => true
  | x :: xs => ls n x && lsL n xs
end
mutual
theorem ls_up {n m : Nat} (h : n ≤ m) : ∀ x : D, ls n x = true → ls m x = true
  | .int _, _ => rfl
  | .str _, _ => rfl
  | .non, _ => rfl
  | .bl _, _ => rfl
  | .frl _, _ => rfl
  | .dt _ _, _ => rfl
  | .ref _, _ => rfl
  | .exc _ _ _, _ => rfl
  | .tup xs, q => by rw [ls, Bool.and_eq_true, decide_eq_true_iff] at *; exact ⟨by omega, lsL_up h xs q.2⟩
  | .lst xs, q => by rw [ls, Bool.and_eq_true, decide_eq_true_iff] at *; exact ⟨by omega, lsL_up h xs q.2⟩
  | .dk _ xs, q => by rw [ls, Bool.and_eq_true, decide_eq_true_iff] at *; exact ⟨by omega, lsL_up h xs q.2⟩
theorem lsL_up {n m : Nat} (h : n ≤ m) : ∀ xs : List D, lsL n xs = true → lsL m xs = true
  | [], _ => rfl
  | x :: xs, q => by
    rw [lsL, Bool.and_eq_true] at *
    exact ⟨ls_up h x q.1, lsL_up h xs q.2⟩
end
theorem lsL_iff {n : Nat} : ∀ {xs : List D}, lsL n xs = true ↔ ∀ x ∈ xs, ls n x = true
  | [] => ⟨fun _ _ h => (nomatch h), fun _ => rfl⟩
  | x :: xs => by
    rw [lsL, Bool.and_eq_true, lsL_iff]
    exact ⟨fun h y hy => (List.mem_cons.mp hy).elim (fun e => e ▸ h.1) (h.2 y), fun h => ⟨h x List.mem_cons_self, fun y hy => h y (List.mem_cons_of_mem _ hy)⟩⟩
theorem ls_tup {n : Nat} {xs : List D} : ls n (.tup xs) = true ↔ xs.length ≤ n - 31 ∧ ∀ x ∈ xs, ls n x = true := by rw [ls, Bool.and_eq_true, lsL_iff, decide_eq_true_iff]
theorem ls_lst {n : Nat} {xs : List D} : ls n (.lst xs) = true ↔ xs.length ≤ n - 31 ∧ ∀ x ∈ xs, ls n x = true := by rw [ls, Bool.and_eq_true, lsL_iff, decide_eq_true_iff]
theorem umL_iff : ∀ {xs : List D}, umL xs = true ↔ ∀ x ∈ xs, um x = true
  | [] => ⟨fun _ _ h => (nomatch h), fun _ => rfl⟩
  | x :: xs => by
    rw [umL, Bool.and_eq_true, umL_iff]
    exact ⟨fun h y hy => (List.mem_cons.mp hy).elim (fun e => e ▸ h.1) (h.2 y), fun h => ⟨h x List.mem_cons_self, fun y hy => h y (List.mem_cons_of_mem _ hy)⟩⟩
theorem pnL_iff : ∀ {xs : List D}, pnL xs = true ↔ ∀ x ∈ xs, pn x = true
  | [] => ⟨fun _ _ h => (nomatch h), fun _ => rfl⟩
  | x :: xs => by
    rw [pnL, Bool.and_eq_true, pnL_iff]
    exact ⟨fun h y hy => (List.mem_cons.mp hy).elim (fun e => e ▸ h.1) (h.2 y), fun h => ⟨h x List.mem_cons_self, fun y hy => h y (List.mem_cons_of_mem _ hy)⟩⟩
structure Gd (n w d : Nat) (x : D) : Prop where
  f : Fb.Gd n w d x
  u : um x = true
  l : ls n x = true
theorem Gd.g {n w d : Nat} {x : D} (h : Gd n w d x) : gd n x = true := h.f.g
theorem Gd.w {n w d : Nat} {x : D} (h : Gd n w d x) : (pyE x).bulk ≤ w := h.f.w
theorem Gd.d {n w d : Nat} {x : D} (h : Gd n w d x) : (pyE x).depth ≤ d := h.f.d
theorem Gd.up {n w d n' w' d' : Nat} {x : D} (h : Gd n w d x) (h1 : n ≤ n') (h2 : w ≤ w') (h3 : d ≤ d') : Gd n' w' d' x := ⟨h.f.up h1 h2 h3, h.u, ls_up h1 _ h.l⟩
theorem Gd.g1 {n w d n' w' d' : Nat} {x : D} (h : Gd n w d x) (h1 : n ≤ n') (h2 : w ≤ w') (h3 : d ≤ d' := by omega) : Gd n' w' d' x := h.up h1 h2 h3
theorem Gd.int {n : Nat} {i : Int} (h : i.natAbs ≤ 10 ^ 20 + n) (h2 : i ≤ 1000000000000) : Gd n 0 0 (.int i) := ⟨Fb.Gd.int h, decide_eq_true h2, rfl⟩
theorem Gd.str {n : Nat} {z : Str} (h : z.length ≤ n) (hc : chs z = true) : Gd n n 0 (.str z) := ⟨Fb.Gd.str h hc, rfl, rfl⟩
theorem Gd.bl {n : Nat} {b : Bool} : Gd n 0 0 (.bl b) := ⟨Fb.Gd.bl, rfl, rfl⟩
theorem Gd.rowT {n w d : Nat} {xs : List D} (h : ∀ x ∈ xs, Gd n w d x) (hl : xs.length ≤ n - 31) {B : Nat} (hB : bk xs ≤ B) : Gd n B (d + 1) (.tup xs) := ⟨Fb.Gd.rowT (fun x hx => (h x hx).f) (by omega) hB, umL_iff.mpr fun x hx => (h x hx).u, ls_tup.mpr ⟨hl, fun x hx => (h x hx).l⟩⟩
theorem Gd.rowL {n w d : Nat} {xs : List D} (h : ∀ x ∈ xs, Gd n w d x) (hl : xs.length ≤ n - 31) {B : Nat} (hB : bk xs ≤ B) : Gd n B (d + 1) (.lst xs) := ⟨Fb.Gd.rowL (fun x hx => (h x hx).f) (by omega) hB, umL_iff.mpr fun x hx => (h x hx).u, ls_lst.mpr ⟨hl, fun x hx => (h x hx).l⟩⟩
theorem odds_ok : ∀ x ∈ odds, Gd 40 100 4 x := by
  have hu : odds.all um = true := by decide +kernel
  have hs : odds.all (ls 40) = true := by decide +kernel
  have : odds.all (fun x => gd 40 x && (decide ((pyE x).bulk ≤ 100) && decide ((pyE x).depth ≤ 4))) = true := by decide +kernel
  intro x hx
  have h := List.all_eq_true.mp this x hx
  simp only [Bool.and_eq_true, decide_eq_true_iff] at h
  exact ⟨⟨h.1, h.2.1, h.2.2⟩, List.all_eq_true.mp hu x hx, List.all_eq_true.mp hs x hx⟩
theorem Gd.itT {n w d : Nat} {xs : List D} (h : Gd n w d (.tup xs)) : ∀ x ∈ xs, Gd n (pyE x).bulk d x := fun x hx => ⟨⟨(gd_tup.mp h.g).2 x hx, Nat.le_refl _, by
  have hd := h.d
  rw [pyE, PyData.depth] at hd
  have := depth_mem hx
  omega⟩, umL_iff.mp h.u x hx, (ls_tup.mp h.l).2 x hx⟩
theorem Gd.itL {n w d : Nat} {xs : List D} (h : Gd n w d (.lst xs)) : ∀ x ∈ xs, Gd n (pyE x).bulk d x := fun x hx => ⟨⟨(gd_lst.mp h.g).2 x hx, Nat.le_refl _, by
  have hd := h.d
  rw [pyE, PyData.depth] at hd
  have := depth_mem hx
  omega⟩, umL_iff.mp h.u x hx, (ls_lst.mp h.l).2 x hx⟩
theorem gi_tup (n w d : Nat) (xs : List D) (h : Gd n w d (.tup xs)) : xs.length ≤ n - 31 ∧ bk xs ≤ w ∧ ∀ x ∈ xs, Gd n (pyE x).bulk d x := ⟨(ls_tup.mp h.l).1, by rw [← bulk_tup]; exact h.w, h.itT⟩
theorem gi_lst (n w d : Nat) (xs : List D) (h : Gd n w d (.lst xs)) : xs.length ≤ n - 31 ∧ bk xs ≤ w ∧ ∀ x ∈ xs, Gd n (pyE x).bulk d x := ⟨(ls_lst.mp h.l).1, by rw [← bulk_lst]; exact h.w, h.itL⟩
def sp__law_odd : SpD := fun ds s Q _ => ∃ b tl, ds = [.ref 1] ∧ StT b tl s ∧ b ≤ 100000000 ∧ ∀ x s', Gd 40 100 4 x → StT (b + 1) tl s' → Q x s'
def sp__law_bent_end : SpD := fun ds s Q _ => ∃ b tl n w d x, ds = [.ref 1, x] ∧ (Gd n w d x ∧ pn x = true) ∧ 50 ≤ n ∧ n ≤ 100000 ∧ StT b tl s ∧ b ≤ 60000000 ∧ ∀ x s', Gd (n + 1) (2 * w + 200) (d + 5) x → StT (b + 10) tl s' → Q x s'
def sp__law_bentN (m : Nat) : SpD := fun ds s Q _ => ∃ (b : Int) (tl : Sto) (n w dp : Nat) (x : D) (d : Int), ds = [.ref 1, x, .int d] ∧ d ≤ (m : Int) ∧ (Gd n w dp x ∧ pn x = true) ∧ 50 ≤ n ∧ n ≤ 100000 ∧ StT b tl s ∧ b + 10 * (m + 1) ≤ 60000000 ∧ ∀ x s', Gd (n + 1) (2 * w + 200) (dp + 5 + m) x → StT (b + 10 * (m + 1)) tl s' → Q x s'
theorem mono__law_odd : MonoSp sp__law_odd := fun _ _ _ _ _ _ f _ ⟨b, tl, h1, h2, h3, h⟩ => ⟨b, tl, h1, h2, h3, fun l s' a1 a2 => f _ _ (h l s' a1 a2)⟩
theorem len__law_odd : ∀ ds s Q E, sp__law_odd ds s Q E → ds.length = ["pot"].length := fun _ _ _ _ ⟨_, _, h, _⟩ => by rw [h]; rfl
theorem mono__law_bent_end : MonoSp sp__law_bent_end := fun _ _ _ _ _ _ f _ ⟨b, tl, n, w, d, x, h1, h2, h3, h4, h5, h6, h⟩ => ⟨b, tl, n, w, d, x, h1, h2, h3, h4, h5, h6, fun l s' a1 a2 => f _ _ (h l s' a1 a2)⟩
theorem len__law_bent_end : ∀ ds s Q E, sp__law_bent_end ds s Q E → ds.length = ["pot", "thing"].length := fun _ _ _ _ ⟨_, _, _, _, _, _, h, _⟩ => by rw [h]; rfl
theorem mono__law_bent {m : Nat} : MonoSp (sp__law_bentN m) := fun _ _ _ _ _ _ f _ ⟨b, tl, n, w, dp, x, d, h1, h2, h3, h4, h5, h6, h7, h⟩ => ⟨b, tl, n, w, dp, x, d, h1, h2, h3, h4, h5, h6, h7, fun l s' a1 a2 => f _ _ (h l s' a1 a2)⟩
theorem len__law_bent {m : Nat} : ∀ ds s Q E, sp__law_bentN m ds s Q E → ds.length = ["pot", "thing", "deep"].length := fun _ _ _ _ ⟨_, _, _, _, _, _, _, h, _⟩ => by rw [h]; rfl
def b__law_odd : SD := (dSeq (dAsg (dLst (dCons (dC .non) (dCons (dC (.bl true)) (dCons (dC (.bl false)) (dCons (dC (.int 0)) (dCons (dUn negF (dC (.int 1))) (dCons (dC (.int 7)) (dCons (dBin (oF subF) (dBin oPow (dC (.int 10)) (dC (.int 12))) (dC (.int 1))) (dCons (dC (.str "")) (dCons (dC (.str "a")) (dCons (dC (.str "A")) (dCons (dC (.str "aB")) (dCons (dC (.str "a b")) (dCons (dC (.str "ab")) (dCons (dC (.str "AB")) (dCons (dC (.str " ")) (dCons (dC (.str "0")) dNil))))))))))))))))) (gN 1))
  (dSeq (dAsg (dBin (oF addF) (dVar 1) (dLst (dCons (dC (.str "e\n")) (dCons (dTup dNil) (dCons (dLst dNil) (dCons (dC (.dk [] [])) dNil)))))) (gN 1))
  (dSeq (dAsg (dBin (oF addF) (dVar 1) (dLst (dCons (dTup (dCons (dC (.str "a")) (dCons (dC (.str "A")) (dCons (dC (.int 0)) (dCons (dC (.int 0)) dNil))))) (dCons (dLst (dCons (dC (.str "a")) (dCons (dC (.str "A")) (dCons (dC (.int 0)) (dCons (dC (.int 0)) dNil))))) (dCons (dTup (dCons (dC (.str "a")) (dCons (dC (.str "A")) dNil))) (dCons (dLst (dCons (dLst (dCons (dC (.int 0)) dNil)) dNil)) (dCons (dTup (dCons (dLst dNil) (dCons (dLst (dCons (dLst (dCons (dC (.int 0)) dNil)) dNil)) dNil))) (dCons (dC (.dk [.inr "a"] [.int 1])) (dCons (dLst (dCons (dC (.str "a")) dNil)) (dCons (dLst (dCons (dLst (dCons (dC (.str "a")) dNil)) dNil)) (dCons (dLst (dCons (dTup dNil) dNil)) dNil))))))))))) (gN 1))
  (dRet (dBin (oF idxF) (dVar 1) (dCall sp__law_dip [] (dCons (dVar 0) (dCons (dCB lenF (dCons (dVar 1) dNil)) dNil))))))))
def b__law_bent_end : SD := (dSeq (dAsg (dCall sp__law_dip [] (dCons (dVar 0) (dCons (dC (.int 6)) dNil))) (gN 2))
  (dSeq (dIfS (dTest (dUn (isiF "int") (dVar 1))) (dSeq (dAsg (dCB min2F (dCons (dBin (oF addF) (dVar 1) (dC (.int 1))) (dCons (dBin (oF subF) (dBin oPow (dC (.int 10)) (dC (.int 12))) (dC (.int 1))) dNil))) (gN 5))
  (dRet (dBin (oF idxF) (dLst (dCons (dVar 5) (dCons (dBin (oF subF) (dVar 1) (dC (.int 1))) (dCons (dBin (oF subF) (dUn negF (dC (.int 1))) (dVar 1)) (dCons (dBin (oF gtBF) (dVar 1) (dC (.int 0))) (dCons (dCB strF (dCons (dVar 1) dNil)) (dCons (dCall sp__law_odd [] (dCons (dVar 0) dNil)) dNil))))))) (dVar 2)))) dNext)
  (dSeq (dIfS (dOr (dTest (dBin (oF eqF) (dVar 2) (dC (.int 5)))) (dNot (dTest (dUn (isiTF ["str", "tuple", "list"]) (dVar 1))))) (dRet (dCall sp__law_odd [] (dCons (dVar 0) dNil))) dNext)
  (dSeq (dAsg (dCall sp__law_dip [] (dCons (dVar 0) (dCons (dBin (oF addF) (dCB lenF (dCons (dVar 1) dNil)) (dC (.int 1))) dNil))) (gN 3))
  (dSeq (dIfS (dTest (dBin (oF ltF) (dVar 2) (dC (.int 2)))) (dRet (dBin (oF idxF) (dLst (dCons (dBin (oF addF) (dSl (dVar 1) dNoP (dP (dVar 3))) (dSl (dVar 1) (dP (dBin (oF addF) (dVar 3) (dC (.int 1)))) dNoP)) (dCons (dBin (oF addF) (dBin (oF addF) (dSl (dVar 1) dNoP (dP (dVar 3))) (dSl (dVar 1) (dP (dVar 3)) (dP (dBin (oF addF) (dVar 3) (dC (.int 1)))))) (dSl (dVar 1) (dP (dVar 3)) dNoP)) dNil))) (dVar 2))) dNext)
  (dSeq (dIfS (dTest (dUn (isiF "str") (dVar 1))) (dSeq (dAsg (dBin (oF idxF) (dC (.str "aAzZ mM{\x40[`0_")) (dCall sp__law_dip [] (dCons (dVar 0) (dCons (dC (.int 13)) dNil)))) (gN 6))
  (dRet (dBin (oF idxF) (dLst (dCons (dBin (oF addF) (dBin (oF addF) (dSl (dVar 1) dNoP (dP (dVar 3))) (dVar 6)) (dSl (dVar 1) (dP (dVar 3)) dNoP)) (dCons (dBin (oF addF) (dBin (oF addF) (dSl (dVar 1) dNoP (dP (dVar 3))) (dVar 6)) (dSl (dVar 1) (dP (dBin (oF addF) (dVar 3) (dC (.int 1)))) dNoP)) (dCons (dSl (dBin (oF addF) (dVar 1) (dVar 1)) dNoP (dP (dC (.int 41)))) dNil)))) (dBin (oF subF) (dVar 2) (dC (.int 2)))))) dNext)
  (dSeq (dIfS (dTest (dBin (oF eqF) (dVar 2) (dC (.int 2)))) (dRet (dIf (dTest (dUn (isiF "tuple") (dVar 1))) (dCB listF (dCons (dVar 1) dNil)) (dCB tupleF (dCons (dVar 1) dNil)))) dNext)
  (dSeq (dIfS (dTest (dBin (oF eqF) (dVar 2) (dC (.int 3)))) (dRet (dUn revF (dVar 1))) dNext)
  (dSeq (dAsg (dCall sp__law_odd [] (dCons (dVar 0) dNil)) (gN 4))
  (dRet (dBin (oF addF) (dBin (oF addF) (dSl (dVar 1) dNoP (dP (dVar 3))) (dBin (oF idxF) (dLst (dCons (dLst (dCons (dVar 4) dNil)) (dCons (dTup (dCons (dVar 4) dNil)) dNil))) (dCB intF (dCons (dUn (isiF "tuple") (dVar 1)) dNil)))) (dSl (dVar 1) (dP (dVar 3)) dNoP))))))))))))
def b__law_bent (sp__law_bent : SpD) : SD := (dSeq (dIfS (dAnd (dTest (dBin (oF gtBF) (dVar 2) (dC (.int 0)))) (dAnd (dTest (dUn (isiTF ["tuple", "list"]) (dVar 1))) (dAnd (dTest (dBin (oF gtBF) (dCB lenF (dCons (dVar 1) dNil)) (dC (.int 0)))) (dTest (dBin (oF gtBF) (dCall sp__law_dip [] (dCons (dVar 0) (dCons (dC (.int 4)) dNil))) (dC (.int 0))))))) (dSeq (dAsg (dCall sp__law_dip [] (dCons (dVar 0) (dCons (dCB lenF (dCons (dVar 1) dNil)) dNil))) (gN 3))
  (dSeq (dAsg (dCall sp__law_bent [] (dCons (dVar 0) (dCons (dBin (oF idxF) (dVar 1) (dVar 3)) (dCons (dBin (oF subF) (dVar 2) (dC (.int 1))) dNil)))) (gN 4))
  (dRet (dBin (oF addF) (dBin (oF addF) (dSl (dVar 1) dNoP (dP (dVar 3))) (dBin (oF idxF) (dLst (dCons (dLst (dCons (dVar 4) dNil)) (dCons (dTup (dCons (dVar 4) dNil)) dNil))) (dCB intF (dCons (dUn (isiF "tuple") (dVar 1)) dNil)))) (dSl (dVar 1) (dP (dBin (oF addF) (dVar 3) (dC (.int 1)))) dNoP))))) dNext)
  (dRet (dCall sp__law_bent_end [] (dCons (dVar 0) (dCons (dVar 1) dNil)))))
section
variable (ds : List D) (s : Sto) (Q : D → Sto → Prop) (E : XD)
theorem pf__law_odd (h : sp__law_odd ds s Q E) : b__law_odd (endsOf Q) (envD ["pot", "some"] ds) s := by
  obtain ⟨b, tl, rfl, S, hb, q⟩ := h
  refine ⟨_, rfl, _, _, rfl, rfl, powOk10 (by decide) (by decide), _, rfl, ll, ?_⟩
  refine ⟨_, rfl, ll, ll, ll, _, addl ll, ?_⟩
  refine ⟨_, rfl, ll, ll, ll, ll, ll, ll, ll, ll, ll, ll, ll, ll, ll, ll, ll, _, addl ll, ?_⟩
  refine ⟨_, rfl, _, rfl, _, rfl, _, rfl, b, tl, 29, rfl, S, by omega, by decide, by decide, fun i s1 i0 i1 S1 => ?_⟩
  obtain ⟨x, h, m⟩ := atI_mem (xs := odds) i0 (by simpa [odds] using i1)
  exact ⟨x, h, q x s1 (odds_ok x m) S1⟩
theorem bent_lt2 {α : Type} {c : List α → D} (K : Kd α c) {env : En} {s : Sto} {Q : D → Sto → Prop} {xs : List α} {at_ way : Int} (h1 : env[1]? = some (some (c xs))) (h3 : env[3]? = some (some (.int at_))) (h2 : env[2]? = some (some (.int way)))
    (w0 : 0 ≤ way) (w1 : way < 2) (a0 : 0 ≤ at_) (a1 : at_ ≤ xs.length) (hl : xs.length ≤ 200000) (q : ∀ ys : List α, (ys = xs.take at_.toNat ++ xs.drop (at_ + 1).toNat ∨ ys = xs.take at_.toNat ++ (xs.take (at_ + 1).toNat).drop at_.toNat ++ xs.drop at_.toNat) → Q (c ys) s) :
    dRet (dBin (oF idxF) (dLst (dCons (dBin (oF addF) (dSl (dVar 1) dNoP (dP (dVar 3))) (dSl (dVar 1) (dP (dBin (oF addF) (dVar 3) (dC (.int 1)))) dNoP)) (dCons (dBin (oF addF) (dBin (oF addF) (dSl (dVar 1) dNoP (dP (dVar 3))) (dSl (dVar 1) (dP (dVar 3)) (dP (dBin (oF addF) (dVar 3) (dC (.int 1)))))) (dSl (dVar 1) (dP (dVar 3)) dNoP)) dNil))) (dVar 2)) (endsOf Q) env s := by
  have t := len_to a0 a1
  have f := len_from (xs := xs) a0
  have f1 := len_from (xs := xs) (at_ := at_ + 1) (by omega)
  have m := len_mid (xs := xs) a0
  refine ⟨_, h1, _, h3, _, rfl, _, K.hs _ _ _ _, _, h1, _, h3, _, rfl, _, rfl, _, K.hs _ _ _ _, _, K.ha _ _ _ (le_line (by omega)), ?_⟩
  refine ⟨_, h1, _, h3, _, rfl, _, K.hs _ _ _ _, _, h1, _, h3, _, rfl, _, h3, _, rfl, _, rfl, _, K.hs _ _ _ _, _, K.ha _ _ _ (le_line (by omega)), ?_⟩
  refine ⟨_, h1, _, h3, _, rfl, _, K.hs _ _ _ _, _, K.ha _ _ _ (le_line (by rw [List.length_append]; omega)), ll, _, h2, ?_⟩
  obtain ⟨x, hx, hm⟩ := two (a := c (cutD xs none (some at_) ++ cutD xs (some (at_ + 1)) none)) (b := c (cutD xs none (some at_) ++ cutD xs (some at_) (some (at_ + 1)) ++ cutD xs (some at_) none)) w0 w1
  refine ⟨x, hx, ?_⟩
  rcases hm with rfl | rfl
  · exact q _ (.inl (by rw [cutD_to a0, cutD_from (by omega)]))
  · exact q _ (.inr (by rw [cutD_to a0, cutD_mid a0 (by omega), cutD_from a0]))
theorem bent_in {c : List D → D} (K : Kd D c) {s : Sto} {Q : D → Sto → Prop} {xs : List D} {env : En} {at_ : Int} {inner : D} {b : Bool} (h1 : env[1]? = some (some (c xs))) (h3 : env[3]? = some (some (.int at_))) (h4 : env[4]? = some (some inner))
    (hb : ∀ s, isiF "tuple" s (c xs) = some (.bl b)) (hc : atI [D.lst [inner], .tup [inner]] (b2n b) = some (c [inner])) (a0 : 0 ≤ at_) (a1 : at_ ≤ xs.length) (hl : xs.length ≤ 200000) {j : ED} {k : Int} (hj : ∀ P : D → Sto → Prop, P (.int k) s → j env s P) (k0 : at_ ≤ k)
    (q : Q (c (xs.take at_.toNat ++ [inner] ++ xs.drop k.toNat)) s) :
    dRet (dBin (oF addF) (dBin (oF addF) (dSl (dVar 1) dNoP (dP (dVar 3))) (dBin (oF idxF) (dLst (dCons (dLst (dCons (dVar 4) dNil)) (dCons (dTup (dCons (dVar 4) dNil)) dNil))) (dCB intF (dCons (dUn (isiF "tuple") (dVar 1)) dNil)))) (dSl (dVar 1) (dP j) dNoP)) (endsOf Q) env s := by
  have t := len_to a0 a1
  have f := len_from (xs := xs) (at_ := k) (by omega)
  refine ⟨_, h1, _, h3, _, rfl, _, K.hs _ _ _ _, _, h4, ll, _, h4, ll, ll, _, h1, _, hb _, _, rfl, _, hc, _, K.ha _ _ _ (le_line (by show _ + 1 ≤ _; omega)), _, h1, hj _ ⟨_, rfl, _, K.hs _ _ _ _, _, K.ha _ _ _ (le_line (by rw [List.length_append]; show _ + 1 + _ ≤ _; omega)), ?_⟩⟩
  rw [cutD_to a0, cutD_from (by omega)]
  exact q
theorem bent_int {b : Int} {tl : Sto} {s : Sto} {Q : D → Sto → Prop} {x : D} {v : Int} {way : Int} {n : Nat} (S : StT b tl s) (hb : b ≤ 60000001) (w0 : 0 ≤ way) (w1 : way < 6) (n1 : 50 ≤ n) (n2 : n ≤ 100000) (v0 : 0 ≤ v) (v1 : v ≤ 1000000000000)
    (hadd : ∀ s, addF s x (.int 1) = some (.int (v + 1))) (hsub : ∀ s, subF s x (.int 1) = some (.int (v - 1))) (hsb : ∀ s, subF s (.int (-1)) x = some (.int (-1 - v))) (hgt : ∀ s, gtBF s x (.int 0) = some (.bl (decide (0 < v)))) {z : Str} (hst : ∀ s, strF s [x] = some (.str z)) (hz : z.length ≤ 41) (hzc : chs z = true) (hv : v.natAbs ≤ 10 ^ 20 + n)
    (q : ∀ x s', Gd (n + 1) 200 5 x → StT (b + 1) tl s' → Q x s') :
    (dSeq (dAsg (dCB min2F (dCons (dBin (oF addF) (dVar 1) (dC (.int 1))) (dCons (dBin (oF subF) (dBin oPow (dC (.int 10)) (dC (.int 12))) (dC (.int 1))) dNil))) (gN 5))
  (dRet (dBin (oF idxF) (dLst (dCons (dVar 5) (dCons (dBin (oF subF) (dVar 1) (dC (.int 1))) (dCons (dBin (oF subF) (dUn negF (dC (.int 1))) (dVar 1)) (dCons (dBin (oF gtBF) (dVar 1) (dC (.int 0))) (dCons (dCB strF (dCons (dVar 1) dNil)) (dCons (dCall sp__law_odd [] (dCons (dVar 0) dNil)) dNil))))))) (dVar 2)))) (endsOf Q) [some (.ref 1), some x, some (.int way), none, none, none, none] s := by
  refine ⟨_, rfl, _, hadd _, _, _, rfl, rfl, p10_12, _, rfl, _, rfl, ?_⟩
  refine ⟨_, rfl, _, rfl, _, hsub _, _, rfl, _, rfl, _, hsb _, _, rfl, _, hgt _, _, rfl, _, hst _, _, rfl, b, tl, rfl, S, by omega, fun y s2 hy S2 => ?_⟩
  refine ⟨ll, _, rfl, ?_⟩
  obtain ⟨w, hw, hm⟩ := atI_mem (xs := [D.int (if (10 : Int) ^ (12 : Int).toNat - 1 < v + 1 then (10 : Int) ^ (12 : Int).toNat - 1 else v + 1), .int (v - 1), .int (-1 - v), .bl (decide (0 < v)), .str z, y]) w0 (by simpa using w1)
  refine ⟨w, hw, q w s2 ?_ S2⟩
  have hB : (1000000000000 : Nat) ≤ 10 ^ 20 := by decide
  rcases (by simpa using hm : w = D.int (if 999999999999 < v + 1 then 999999999999 else v + 1) ∨ w = .int (v - 1) ∨ w = .int (-1 - v) ∨ w = .bl (decide (0 < v)) ∨ w = .str z ∨ w = y) with rfl | rfl | rfl | rfl | rfl | rfl
  · exact (Gd.int (by split <;> omega) (by split <;> omega)).up (Nat.le_refl _) (Nat.zero_le _) (Nat.zero_le _)
  · exact (Gd.int (by omega) (by omega)).up (Nat.le_refl _) (Nat.zero_le _) (Nat.zero_le _)
  · exact (Gd.int (by omega) (by omega)).up (Nat.le_refl _) (Nat.zero_le _) (Nat.zero_le _)
  · exact Gd.bl.up (Nat.le_refl _) (Nat.zero_le _) (Nat.zero_le _)
  · exact (Gd.str (n := 41) hz hzc).g1 (by omega) (by omega)
  · exact hy.up (by omega) (by decide) (by decide)
theorem pf__law_bent_end (h : sp__law_bent_end ds s Q E) : b__law_bent_end (endsOf Q) (envD ["pot", "thing", "way", "at", "inner", "more", "sign"] ds) s := by
  obtain ⟨b, tl, n, w, d, x, rfl, ⟨hx, hp⟩, n1, n2, S, hb, q⟩ := h
  refine ⟨_, rfl, b, tl, 6, rfl, S, by omega, by decide, by decide, fun way s1 w0 w1 S1 => ?_⟩
  have other : ∀ (P : Prop), (∀ y s', Gd 40 100 4 y → StT (b + 1 + 1) tl s' → Q y s') := fun P y s' hy S' => q y s' (hy.up (by omega) (by omega) (by omega)) (S'.up (by omega))
  cases x with
  | frl _ => exact absurd hx.g Bool.false_ne_true
  | ref _ => exact absurd hx.g Bool.false_ne_true
  | exc _ _ _ => exact absurd hx.g Bool.false_ne_true
  | int i =>
    have hi := of_decide_eq_true hx.g
    have h40 : i.natAbs < 10 ^ 40 := by
      have : (10 : Nat) ^ 20 + 1000000 < 10 ^ 40 := by decide
      omega
    refine ⟨_, rfl, _, rfl, _, rfl, ?_⟩
    exact bent_int (v := i) S1 (by omega) w0 w1 n1 n2 (of_decide_eq_true hp) (of_decide_eq_true hx.u) (fun _ => rfl) (fun _ => rfl) (fun _ => rfl) (fun _ => rfl) (fun s => strF_any h40) (int_len h40) (chs_int i) hi fun y s' hy S' => q y s' (hy.up (Nat.le_refl _) (by omega) (by omega)) (S'.up (by omega))
  | bl k =>
    refine ⟨_, rfl, _, rfl, _, rfl, ?_⟩
    exact bent_int (v := b2n k) S1 (by omega) w0 w1 n1 n2 (by cases k <;> decide) (by cases k <;> decide) (fun _ => rfl) (fun _ => rfl) (fun _ => rfl) (fun _ => rfl) (fun s => rfl) (bl_len k) (by cases k <;> decide +kernel) (Nat.le_trans (by cases k <;> decide : (b2n k).natAbs ≤ 10 ^ 20) (Nat.le_add_right _ _)) fun y s' hy S' => q y s' (hy.up (Nat.le_refl _) (by omega) (by omega)) (S'.up (by omega))
  | str z =>
    have hg := hx.g
    rw [gd, Bool.and_eq_true, decide_eq_true_iff] at hg
    obtain ⟨hg, hgc⟩ := hg
    have hwz : z.length ≤ w := by
      have := hx.w
      rw [pyE, PyData.bulk] at this
      exact this
    refine ⟨_, rfl, _, rfl, _, rfl, _, rfl, _, eq_ii, _, rfl, ifB (fun _ => ?_) fun h5 => ⟨_, rfl, _, rfl, _, rfl, ?_⟩⟩
    · exact ⟨_, rfl, b + 1, tl, rfl, S1, by omega, other True⟩
    have w5 : way ≠ 5 := by simpa using h5
    refine ⟨_, rfl, _, rfl, _, rfl, _, rfl, b + 1, tl, _, rfl, S1, by omega, by omega, by omega, fun at_ s2 a0 a1 S2 => ?_⟩
    have hzl : z.cps.toList.length = z.length := cps_len z
    rw [str_eq z] at a1 ⊢
    have a1' : at_ ≤ ((z.cps.toList.length : Nat) : Int) := by rw [strL_length] at a1; omega
    have txt2 : ∀ {l : List Nat}, l.length ≤ 50 → (∀ c ∈ l, c ∈ z.cps.toList ∨ c < 128) → Gd (n + 1) (2 * w + 200) (d + 5) (.str (strL l)) := fun {l} h1 h2 => (Gd.str (n := 50) (by rw [strL_length]; exact h1) (chs_strL fun c hc => (h2 c hc).elim (chs_mem hgc) id)).up (by omega) (by omega) (Nat.zero_le _)
    have txt : ∀ {l : List Nat}, l.length ≤ z.length + 1 → (∀ c ∈ l, c ∈ z.cps.toList ∨ c < 128) → Gd (n + 1) (2 * w + 200) (d + 5) (.str (strL l)) := fun {l} h1 h2 => (Gd.str (n := z.length + 1) (by rw [strL_length]; exact h1) (chs_strL fun c hc => (h2 c hc).elim (chs_mem hgc) id)).up (by omega) (by omega) (Nat.zero_le _)
    refine ⟨_, rfl, _, rfl, _, rfl, ifD (fun hw => ?_) fun hw => ?_⟩
    · exact bent_lt2 kd_str rfl rfl rfl w0 hw a0 a1' (by omega) fun ys hy => q _ _ (txt (by
        rcases hy with rfl | rfl
        · rw [List.length_append, List.length_take, List.length_drop]; omega
        · rw [List.length_append, List.length_append, List.length_take, List.length_drop, List.length_drop, List.length_take]; omega) (fun c hc => .inl (by
        rcases hy with rfl | rfl
        · rcases List.mem_append.mp hc with h | h
          · exact List.mem_of_mem_take h
          · exact List.mem_of_mem_drop h
        · rcases List.mem_append.mp hc with h | h
          · rcases List.mem_append.mp h with h | h
            · exact List.mem_of_mem_take h
            · exact List.mem_of_mem_take (List.mem_of_mem_drop h)
          · exact List.mem_of_mem_drop h))) (S2.up (by omega))
    refine ⟨_, rfl, _, rfl, _, rfl, ?_⟩
    refine ⟨_, rfl, _, _, 13, rfl, S2, by omega, by decide, by decide, fun j s3 j0 j1 S3 => ?_⟩
    obtain ⟨c, hc, hcm⟩ := atI_mem (xs := (Str.ofString "aAzZ mM{\x40[`0_").cps.toList) j0 j1
    have hc128 : c < 128 := by
      have : ((Str.ofString "aAzZ mM{\x40[`0_").cps.toList.all fun c => decide (c < 128)) = true := by decide +kernel
      exact of_decide_eq_true (List.all_eq_true.mp this c hcm)
    refine ⟨_, by rw [idx_s, hc]; rfl, ?_⟩
    have t := len_to a0 a1'
    have f := len_from (xs := z.cps.toList) a0
    have f1 := len_from (xs := z.cps.toList) (at_ := at_ + 1) (by omega)
    refine ⟨_, rfl, _, rfl, _, rfl, _, kd_str.hs _ _ _ _, _, rfl, _, kd_str.ha _ _ [c] (le_line (by show _ + 1 ≤ _; omega)), _, rfl, _, rfl, _, rfl, _, kd_str.hs _ _ _ _, _, kd_str.ha _ _ _ (le_line (by rw [List.length_append]; show _ + 1 + _ ≤ _; omega)), ?_⟩
    refine ⟨_, rfl, _, rfl, _, rfl, _, kd_str.hs _ _ _ _, _, rfl, _, kd_str.ha _ _ [c] (le_line (by show _ + 1 ≤ _; omega)), _, rfl, _, rfl, _, rfl, _, rfl, _, kd_str.hs _ _ _ _, _, kd_str.ha _ _ _ (le_line (by rw [List.length_append]; show _ + 1 + _ ≤ _; omega)), ?_⟩
    refine ⟨_, rfl, _, rfl, _, kd_str.ha _ z.cps.toList z.cps.toList (le_line (by omega)), _, rfl, _, kd_str.hs _ _ _ _, ll, _, rfl, _, rfl, ?_⟩
    obtain ⟨y, hy, hm⟩ := atI_mem (xs := [D.str (strL (cutD z.cps.toList none (some at_) ++ [c] ++ cutD z.cps.toList (some at_) none)), .str (strL (cutD z.cps.toList none (some at_) ++ [c] ++ cutD z.cps.toList (some (at_ + 1)) none)), .str (strL (cutD (z.cps.toList ++ z.cps.toList) none (some 41)))]) (i := way - 2) (by omega) (by show way - 2 < 3; omega)
    refine ⟨y, hy, q y s3 ?_ (S3.up (by omega))⟩
    rcases (by simpa using hm : y = D.str (strL (cutD z.cps.toList none (some at_) ++ ([c] ++ cutD z.cps.toList (some at_) none))) ∨ y = .str (strL (cutD z.cps.toList none (some at_) ++ ([c] ++ cutD z.cps.toList (some (at_ + 1)) none))) ∨ y = .str (strL (cutD (z.cps.toList ++ z.cps.toList) none (some 41)))) with rfl | rfl | rfl
    · refine txt (by rw [List.length_append, List.length_append]; show _ + (1 + _) ≤ _; omega) fun x hx => ?_
      rcases List.mem_append.mp hx with h | h
      · exact .inl (cut_mem h)
      · rcases List.mem_append.mp h with h | h
        · exact .inr (by rw [List.mem_singleton.mp h]; exact hc128)
        · exact .inl (cut_mem h)
    · refine txt (by rw [List.length_append, List.length_append]; show _ + (1 + _) ≤ _; omega) fun x hx => ?_
      rcases List.mem_append.mp hx with h | h
      · exact .inl (cut_mem h)
      · rcases List.mem_append.mp h with h | h
        · exact .inr (by rw [List.mem_singleton.mp h]; exact hc128)
        · exact .inl (cut_mem h)
    · refine txt2 (by rw [cutD_to (by decide), List.length_take]; omega) fun x hx => ?_
      rcases List.mem_append.mp (cut_mem hx) with h | h
      · exact .inl h
      · exact .inl h
  | tup xs =>
    have hl := (ls_tup.mp hx.l).1
    have hwx : bk xs ≤ w := by rw [← bulk_tup]; exact hx.w
    have hit := hx.itT
    have fin : ∀ (ys : List D) s', ys.length ≤ n - 31 + 1 → bk ys ≤ 2 * w + 200 → (∀ y ∈ ys, y ∈ xs ∨ Gd 40 100 4 y) → StT (b + 10) tl s' → Q (.tup ys) s' := fun ys s' h1 h3 h2 S' => q _ _ ((Gd.rowT (n := n + 1) (w := w + 100) (d := d + 4) (fun y hy => (h2 y hy).elim (fun h => (hit y h).up (by omega) (by have := bk_mem h; omega) (by omega)) fun h => h.up (by omega) (by omega) (by omega)) (by omega) h3).up (Nat.le_refl _) (Nat.le_refl _) (Nat.le_refl _)) S'
    have finO : ∀ s', StT (b + 10) tl s' → Q (.lst xs) s' := fun s' S' => q _ _ ((Gd.rowL (n := n + 1) (w := w + 100) (d := d + 4) (fun y hy => (hit y hy).up (by omega) (by have := bk_mem hy; omega) (by omega)) (by omega) (B := 2 * w + 200) (by omega)).up (Nat.le_refl _) (Nat.le_refl _) (Nat.le_refl _)) S'
    refine ⟨_, rfl, _, rfl, _, rfl, _, rfl, _, eq_ii, _, rfl, ifB (fun _ => ?_) fun _ => ⟨_, rfl, _, rfl, _, rfl, ?_⟩⟩
    · exact ⟨_, rfl, b + 1, tl, rfl, S1, by omega, other True⟩
    refine ⟨_, rfl, _, rfl, _, rfl, _, rfl, b + 1, tl, _, rfl, S1, by omega, by omega, by omega, fun at_ s2 a0 a1 S2 => ?_⟩
    have a1' : at_ ≤ ((xs.length : Nat) : Int) := by omega
    refine ⟨_, rfl, _, rfl, _, rfl, ifD (fun hw => ?_) fun hw => ?_⟩
    · exact bent_lt2 kd_tup rfl rfl rfl w0 hw a0 a1' (by omega) fun ys hy => by
        rcases hy with rfl | rfl
        · refine fin _ _ (by rw [List.length_append, List.length_take, List.length_drop]; omega) (by have := bk_out xs at_.toNat (at_ + 1).toNat (by omega); omega) (fun y hy => .inl ?_) (S2.up (by omega))
          rcases List.mem_append.mp hy with h | h
          · exact List.mem_of_mem_take h
          · exact List.mem_of_mem_drop h
        · refine fin _ _ (by rw [List.length_append, List.length_append, List.length_take, List.length_drop, List.length_drop, List.length_take]; omega) (by have := bk_twice xs at_.toNat (at_ + 1).toNat; omega) (fun y hy => .inl ?_) (S2.up (by omega))
          rcases List.mem_append.mp hy with h | h
          · rcases List.mem_append.mp h with h | h
            · exact List.mem_of_mem_take h
            · exact List.mem_of_mem_take (List.mem_of_mem_drop h)
          · exact List.mem_of_mem_drop h
    refine ⟨_, rfl, _, rfl, _, rfl, ?_⟩
    refine ⟨_, rfl, _, eq_ii, _, rfl, ifB (fun _ => ?_) fun _ => ?_⟩
    · exact ⟨_, rfl, _, rfl, _, rfl, _, rfl, _, rfl, finO _ (S2.up (by omega))⟩
    refine ⟨_, rfl, _, eq_ii, _, rfl, ifB (fun _ => ?_) fun _ => ?_⟩
    · exact ⟨_, rfl, _, rfl, fin _ _ (by rw [List.length_reverse]; omega) (by rw [bk_rev]; omega) (fun y hy => .inl (List.mem_reverse.mp hy)) (S2.up (by omega)) ⟩
    refine ⟨_, rfl, b + 2, tl, rfl, S2.up (by omega), by omega, fun inner s3 hi S3 => ?_⟩
    exact bent_in kd_tup (b := true) (k := at_) rfl rfl rfl (fun _ => rfl) rfl a0 a1' (by omega) (fun P p => ⟨_, rfl, p⟩) (Int.le_refl _) (fin _ _ (by rw [List.length_append, List.length_append, List.length_take, List.length_drop]; show _ + 1 + _ ≤ _; omega) (by have := hi.w; have := bk_put xs at_.toNat inner; omega) (fun y hy => by
        rcases List.mem_append.mp hy with h | h
        · rcases List.mem_append.mp h with h | h
          · exact .inl (List.mem_of_mem_take h)
          · exact .inr (by rw [List.mem_singleton.mp h]; exact hi)
        · exact .inl (List.mem_of_mem_drop h)) (S3.up (by omega)))
  | lst xs =>
    have hl := (ls_lst.mp hx.l).1
    have hwx : bk xs ≤ w := by rw [← bulk_lst]; exact hx.w
    have hit := hx.itL
    have fin : ∀ (ys : List D) s', ys.length ≤ n - 31 + 1 → bk ys ≤ 2 * w + 200 → (∀ y ∈ ys, y ∈ xs ∨ Gd 40 100 4 y) → StT (b + 10) tl s' → Q (.lst ys) s' := fun ys s' h1 h3 h2 S' => q _ _ ((Gd.rowL (n := n + 1) (w := w + 100) (d := d + 4) (fun y hy => (h2 y hy).elim (fun h => (hit y h).up (by omega) (by have := bk_mem h; omega) (by omega)) fun h => h.up (by omega) (by omega) (by omega)) (by omega) h3).up (Nat.le_refl _) (Nat.le_refl _) (Nat.le_refl _)) S'
    have finO : ∀ s', StT (b + 10) tl s' → Q (.tup xs) s' := fun s' S' => q _ _ ((Gd.rowT (n := n + 1) (w := w + 100) (d := d + 4) (fun y hy => (hit y hy).up (by omega) (by have := bk_mem hy; omega) (by omega)) (by omega) (B := 2 * w + 200) (by omega)).up (Nat.le_refl _) (Nat.le_refl _) (Nat.le_refl _)) S'
    refine ⟨_, rfl, _, rfl, _, rfl, _, rfl, _, eq_ii, _, rfl, ifB (fun _ => ?_) fun _ => ⟨_, rfl, _, rfl, _, rfl, ?_⟩⟩
    · exact ⟨_, rfl, b + 1, tl, rfl, S1, by omega, other True⟩
    refine ⟨_, rfl, _, rfl, _, rfl, _, rfl, b + 1, tl, _, rfl, S1, by omega, by omega, by omega, fun at_ s2 a0 a1 S2 => ?_⟩
    have a1' : at_ ≤ ((xs.length : Nat) : Int) := by omega
    refine ⟨_, rfl, _, rfl, _, rfl, ifD (fun hw => ?_) fun hw => ?_⟩
    · exact bent_lt2 kd_lst rfl rfl rfl w0 hw a0 a1' (by omega) fun ys hy => by
        rcases hy with rfl | rfl
        · refine fin _ _ (by rw [List.length_append, List.length_take, List.length_drop]; omega) (by have := bk_out xs at_.toNat (at_ + 1).toNat (by omega); omega) (fun y hy => .inl ?_) (S2.up (by omega))
          rcases List.mem_append.mp hy with h | h
          · exact List.mem_of_mem_take h
          · exact List.mem_of_mem_drop h
        · refine fin _ _ (by rw [List.length_append, List.length_append, List.length_take, List.length_drop, List.length_drop, List.length_take]; omega) (by have := bk_twice xs at_.toNat (at_ + 1).toNat; omega) (fun y hy => .inl ?_) (S2.up (by omega))
          rcases List.mem_append.mp hy with h | h
          · rcases List.mem_append.mp h with h | h
            · exact List.mem_of_mem_take h
            · exact List.mem_of_mem_take (List.mem_of_mem_drop h)
          · exact List.mem_of_mem_drop h
    refine ⟨_, rfl, _, rfl, _, rfl, ?_⟩
    refine ⟨_, rfl, _, eq_ii, _, rfl, ifB (fun _ => ?_) fun _ => ?_⟩
    · exact ⟨_, rfl, _, rfl, _, rfl, _, rfl, _, rfl, finO _ (S2.up (by omega))⟩
    refine ⟨_, rfl, _, eq_ii, _, rfl, ifB (fun _ => ?_) fun _ => ?_⟩
    · exact ⟨_, rfl, _, rfl, fin _ _ (by rw [List.length_reverse]; omega) (by rw [bk_rev]; omega) (fun y hy => .inl (List.mem_reverse.mp hy)) (S2.up (by omega)) ⟩
    refine ⟨_, rfl, b + 2, tl, rfl, S2.up (by omega), by omega, fun inner s3 hi S3 => ?_⟩
    exact bent_in kd_lst (b := false) (k := at_) rfl rfl rfl (fun _ => rfl) rfl a0 a1' (by omega) (fun P p => ⟨_, rfl, p⟩) (Int.le_refl _) (fin _ _ (by rw [List.length_append, List.length_append, List.length_take, List.length_drop]; show _ + 1 + _ ≤ _; omega) (by have := hi.w; have := bk_put xs at_.toNat inner; omega) (fun y hy => by
        rcases List.mem_append.mp hy with h | h
        · rcases List.mem_append.mp h with h | h
          · exact .inl (List.mem_of_mem_take h)
          · exact .inr (by rw [List.mem_singleton.mp h]; exact hi)
        · exact .inl (List.mem_of_mem_drop h)) (S3.up (by omega)))
  | _ =>
    refine ⟨_, rfl, _, rfl, _, rfl, _, rfl, _, eq_ii, _, rfl, ifB (fun _ => ?_) fun _ => ⟨_, rfl, _, rfl, _, rfl, ?_⟩⟩
    · exact ⟨_, rfl, b + 1, tl, rfl, S1, by omega, other True⟩
    · exact ⟨_, rfl, b + 1, tl, rfl, S1, by omega, other True⟩
theorem bent_out {spB : SpD} {b : Int} {tl : Sto} {s : Sto} {n w dp : Nat} {x : D} {d : Int} {Q : D → Sto → Prop} (hx : Gd n w dp x ∧ pn x = true) (n1 : 50 ≤ n) (n2 : n ≤ 100000) (S : StT b tl s) (hb : b ≤ 60000000) (q : ∀ x s', Gd (n + 1) (2 * w + 200) (dp + 5) x → StT (b + 10) tl s' → Q x s') :
    dRet (dCall sp__law_bent_end [] (dCons (dVar 0) (dCons (dVar 1) dNil))) (endsOf Q) [some (.ref 1), some x, some (.int d), none, none] s :=
  ⟨_, rfl, _, rfl, b, tl, n, w, dp, x, rfl, hx, n1, n2, S, by omega, q⟩
theorem bent_seq {m : Nat} {b : Int} {tl : Sto} {s : Sto} {n w dp : Nat} {c : List D → D} (K : Kd D c) {bt : Bool} (hb1 : ∀ s xs, isiF "tuple" s (c xs) = some (.bl bt)) (hc : ∀ x, atI [D.lst [x], .tup [x]] (b2n bt) = some (c [x])) (hi : ∀ s xs, isiTF ["tuple", "list"] s (c xs) = some (.bl true)) (hlen : ∀ s xs, lenF s [c xs] = some (.int xs.length)) (hix : ∀ s xs i, idxF s (c xs) (.int i) = atI xs i)
    (hgi : ∀ n w d xs, Gd n w d (c xs) → xs.length ≤ n - 31 ∧ bk xs ≤ w ∧ ∀ x ∈ xs, Gd n (pyE x).bulk d x) (hgo : ∀ n w d B xs, (∀ x ∈ xs, Gd n w d x) → xs.length ≤ n - 31 → bk xs ≤ B → Gd n B (d + 1) (c xs)) {xs : List D} {d : Int} {Q : D → Sto → Prop} (hd : d ≤ ((m + 1 : Nat) : Int)) (hpn : ∀ xs, pn (c xs) = true → ∀ x ∈ xs, pn x = true) (hx : Gd n w dp (c xs)) (hp : pn (c xs) = true) (n1 : 50 ≤ n) (n2 : n ≤ 100000) (S : StT b tl s) (hb : b + 10 * ((m + 1 : Nat) + 1) ≤ 60000000)
    (q : ∀ x s', Gd (n + 1) (2 * w + 200) (dp + 5 + (m + 1)) x → StT (b + 10 * ((m + 1 : Nat) + 1)) tl s' → Q x s') : b__law_bent (sp__law_bentN m) (endsOf Q) [some (.ref 1), some (c xs), some (.int d), none, none] s := by
  obtain ⟨hl, hwx, hm⟩ := hgi _ _ _ _ hx
  refine ⟨_, rfl, _, rfl, _, rfl, ifD (fun hd0 => ?_) fun _ => ?_⟩
  · refine ⟨_, rfl, _, hi _ _, _, rfl, ?_⟩
    refine ⟨_, rfl, _, hlen _ _, _, rfl, _, rfl, ifD (fun hl0 => ?_) fun _ => ?_⟩
    · refine ⟨_, rfl, b, tl, 4, rfl, S, by omega, by decide, by decide, fun i s1 i0 i1 S1 => ?_⟩
      refine ⟨_, rfl, _, rfl, ifD (fun hi0 => ?_) fun _ => ?_⟩
      · refine ⟨_, rfl, _, rfl, _, hlen _ _, b + 1, tl, _, rfl, S1, by omega, by omega, by omega, fun at_ s2 a0 a1 S2 => ?_⟩
        obtain ⟨y, hy, my⟩ := atI_mem (xs := xs) a0 a1
        refine ⟨_, rfl, _, rfl, _, rfl, _, (hix _ _ _).trans hy, _, rfl, _, rfl, b + 2, tl, n, (pyE y).bulk, dp, y, d - 1, rfl, by omega, ⟨hm y my, hpn _ hp y my⟩, n1, n2, S2.up (by omega), by omega, fun inner s3 h3 S3 => ?_⟩
        have hby := bk_at xs at_.toNat (by omega)
        have hyx : xs[at_.toNat]? = some y := by rw [← atI_in a0 (by omega)]; exact hy
        rw [hyx] at hby
        refine bent_in K (b := bt) (k := at_ + 1) rfl rfl rfl (fun s => hb1 s xs) (hc inner) a0 (by omega) (by omega) (fun P p => ⟨_, rfl, _, rfl, p⟩) (by omega) (q _ _ ((hgo (n + 1) (2 * w + 200) (dp + 5 + m) (2 * w + 200) _ (fun y' hy' => ?_) (by rw [List.length_append, List.length_append, List.length_take, List.length_drop]; show _ + 1 + _ ≤ _; omega) ?_).up (Nat.le_refl _) (Nat.le_refl _) (by omega)) (S3.up (by omega)))
        · rcases List.mem_append.mp hy' with h | h
          · rcases List.mem_append.mp h with h | h
            · exact (hm y' (List.mem_of_mem_take h)).up (by omega) (by have := bk_mem (List.mem_of_mem_take h); omega) (by omega)
            · rw [List.mem_singleton.mp h]; exact h3.up (Nat.le_refl _) (by have := bk_mem my; omega) (by omega)
          · exact (hm y' (List.mem_of_mem_drop h)).up (by omega) (by have := bk_mem (List.mem_of_mem_drop h); omega) (by omega)
        · have := h3.w
          have e : (at_ + 1).toNat = at_.toNat + 1 := by omega
          have := bk_mem my
          rw [e, bk_app, bk_app, bk_cons, bk_nil]
          simp only [Option.map, Option.getD] at hby
          omega
      · exact bent_out (spB := spNo) ⟨hx, hp⟩ n1 n2 S1 (by omega) fun x s' hx S' => q x s' (hx.up (Nat.le_refl _) (Nat.le_refl _) (by omega)) (S'.up (by omega))
    · exact bent_out (spB := spNo) ⟨hx, hp⟩ n1 n2 S (by omega) fun x s' hx S' => q x s' (hx.up (Nat.le_refl _) (Nat.le_refl _) (by omega)) (S'.up (by omega))
  · exact bent_out (spB := spNo) ⟨hx, hp⟩ n1 n2 S (by omega) fun x s' hx S' => q x s' (hx.up (Nat.le_refl _) (Nat.le_refl _) (by omega)) (S'.up (by omega))
theorem pf__law_bent0 (h : sp__law_bentN 0 ds s Q E) : b__law_bent spNo (endsOf Q) (envD ["pot", "thing", "deep", "at", "inner"] ds) s := by
  obtain ⟨b, tl, n, w, dp, x, d, rfl, hd, hx, n1, n2, S, hb, q⟩ := h
  refine ⟨_, rfl, _, rfl, _, rfl, ifD (fun hd0 => ?_) fun _ => ?_⟩
  · exact absurd hd0 (by omega)
  · exact bent_out (spB := spNo) hx n1 n2 S (by omega) fun x s' hx S' => q x s' (hx.up (Nat.le_refl _) (Nat.le_refl _) (by omega)) (S'.up (by omega))
theorem pf__law_bentS (m : Nat) (h : sp__law_bentN (m + 1) ds s Q E) : b__law_bent (sp__law_bentN m) (endsOf Q) (envD ["pot", "thing", "deep", "at", "inner"] ds) s := by
  obtain ⟨b, tl, n, w, dp, x, d, rfl, hd, ⟨hx, hp⟩, n1, n2, S, hb, q⟩ := h
  cases x with
  | frl _ => exact absurd hx.g Bool.false_ne_true
  | ref _ => exact absurd hx.g Bool.false_ne_true
  | exc _ _ _ => exact absurd hx.g Bool.false_ne_true
  | tup xs => exact bent_seq kd_tup (bt := true) (fun _ _ => rfl) (fun _ => rfl) (fun _ _ => rfl) (fun _ _ => rfl) (fun _ _ _ => rfl) gi_tup (fun _ _ _ _ _ a b c => Gd.rowT a b c) hd (fun _ h => pnL_iff.mp h) hx hp n1 n2 S hb q
  | lst xs => exact bent_seq kd_lst (bt := false) (fun _ _ => rfl) (fun _ => rfl) (fun _ _ => rfl) (fun _ _ => rfl) (fun _ _ _ => rfl) gi_lst (fun _ _ _ _ _ a b c => Gd.rowL a b c) hd (fun _ h => pnL_iff.mp h) hx hp n1 n2 S hb q
  | _ =>
    refine ⟨_, rfl, _, rfl, _, rfl, ifD (fun hd0 => ?_) fun _ => ?_⟩
    · refine ⟨_, rfl, _, rfl, _, rfl, ?_⟩
      exact bent_out (spB := spNo) ⟨hx, hp⟩ n1 n2 S (by omega) fun x s' hx S' => q x s' (hx.up (Nat.le_refl _) (Nat.le_refl _) (by omega)) (S'.up (by omega))
    · exact bent_out (spB := spNo) ⟨hx, hp⟩ n1 n2 S (by omega) fun x s' hx S' => q x s' (hx.up (Nat.le_refl _) (Nat.le_refl _) (by omega)) (S'.up (by omega))
end
end Fh
namespace Dl
open PySem PySem.Spec PyProof.Rows L2
theorem exT_ok {P : Program} {w : World} {H : Hp} {h : Heap} {a t : Addr} {cls : Value} {oe : Obj} {vs : Array Value} (e : h.get? a = some oe) (z : Zc cls none oe) (d : oe.data = .fields vs) (h0 : vs[0]? = some (.ref t)) : ObjOk P w H h a (ExT cls t a) :=
  ⟨⟨oe, vs, e, z, d, h0⟩, ⟨_, e⟩, fun h1 h2 y k => by
    obtain ⟨oe', vs', b1, b2, b3, b4⟩ := y
    exact ⟨oe', vs', k _ b1, b2, b3, b4⟩⟩
def tExT (C : Addr) (ta : TE) : TE := fun σ H Q => ta σ H fun v H1 => ∃ z : Str, v = .str z ∧ ∀ t a, H1 t = none → (upd H1 t (.tup [.str z])) a = none → Q (.ref a) (upd (upd H1 t (.tup [.str z])) a (ExT (.ref C) t a))
section
variable {X : Cx}
theorem pe_excT {C : Addr} {bmB : List Value} {B newId initId : String} {x : Str} {e : Expr} {ta : TE} {p pos : Pos} (F : ExcBaseFacts B newId initId bmB) (q : PySem.W.excIn X.K C bmB newId = true) (gC : X.mg x = some (.ref C)) (kC : PySem.W.keepIn X.K (.ref C) = true) (hg : Gl X x)
    (he : PE X e ta) (hs : starEach [e] X.env = (false, eval e X.env) :: starEach [] X.env := by rfl) (hdb : (x == ("__debug__" : Str)) = false := by decide) :
    PE X (.Call (.Name x p) [e] [] pos) (tExT C ta) := by
  refine ⟨fun pins s σ H Q I h => ?_⟩
  refine wpAny_Call_Name_kw (ld_glob I hg gC ?_ hdb)
  refine PySem.W.callWith_K (h₀ := X.base) I.ok.mod.kin kC ?_ hs (by rfl)
  rw [hs]
  show wpAny _ _ (spliced ((false, eval e X.env) :: backTo pos (starEach [] X.env))) _ _ s
  refine Calls.spliced_cons (thn (he.run pins s σ H _ I h) fun u s1 ⟨v, H1, I1, r1, z, ev, q1⟩ => ?_)
  subst ev
  refine Calls.spliced_nil ⟨I1.kIn, ?_⟩
  show wpAny _ _ (call (.ref C) [u]) _ _ _
  obtain ⟨bm, N, nm, qn, bs, hdct, sn, sub, ab, col, dd, k0, k1, k2, k3, k5, mN, hC, hN, hni, T⟩ := exc_obj I1.kIn q
  refine wpAny_call_exc_subT F T hC hN hni (fun h' a hm => ?_) (by show 1 ≤ sizeLine; rw [sizeLine_eq]; omega)
  have hn : H1 a = none := I1.hok.gone hm.new
  obtain ⟨t, ha, htn, htt⟩ := hm.there
  have hnt : H1 t = none := I1.hok.gone htn
  have hat : a ≠ t := fun e => by
    rw [e, htt] at ha
    cases ha
  have hna : (upd H1 t (.tup [.str z])) a = none := by rw [upd_ne hat]; exact hn
  have nt : ObjOk X.prog X.w (upd H1 t (.tup [.str z])) h' t (.tup [.str z]) := ⟨by show 1 ≤ sizeLine; rw [sizeLine_eq]; omega, [u], .cons r1 .nil, ⟨_, htt, rfl, _, rfl⟩⟩
  have hok := (I1.hok.laidN hm.keeps hnt nt).laidN (fun _ _ e => e) hna (exT_ok (t := t) ha ⟨rfl, rfl⟩ rfl rfl)
  have U : Un X.fs [] H1 (upd (upd H1 t (.tup [.str z])) a (ExT (.ref C) t a)) s1.heap h' := {
    keep := fun b o q n _ _ => hm.keeps b o q
    slot := fun b o q n _ _ => ⟨o.slots, hm.keeps b o q⟩
    free := fun b o q n _ => by
      rw [upd_ne (fun e => by rw [e, hm.new] at q; cases q), upd_ne (fun e => by rw [e, htn] at q; cases q)]
      exact n
    there := fun b o q _ => ⟨o, hm.keeps b o q⟩
    tups := fun b xs q => by rw [upd_ne (ne_of_none q hn), upd_ne (ne_of_none q hnt)]; exact q
    frzs := fun b o v q => by rw [upd_ne (ne_of_none q hn), upd_ne (ne_of_none q hnt)]; exact q
    tbls := fun b ps q => ⟨#[], by rw [upd_ne (ne_of_none q hn), upd_ne (ne_of_none q hnt), q]; simp⟩ }
  exact ⟨.ref a, _, I1.un (t' := s1.toks) U hok, rfl, q1 t a hnt hna⟩
end
def dExcT (x : Str) (te : ED) : ED := fun env s Q => te env s fun d s1 => ∃ z, d = .str z ∧ Q (.exc x [("" : Str)] [.str z]) s1
theorem mono_excT {x : Str} {te : ED} (m : Mono te) : Mono (dExcT x te) := fun _ _ _ _ f h => m _ _ _ _ (fun _ _ ⟨z, e, q⟩ => ⟨z, e, f _ _ q⟩) h
structure OwnV (K : PySem.W.Frag) (mg : Str → Option Value) (x : Str) (C : Addr) : Prop where
  o : OwnX K mg x C
  n : PySem.W.nsIn K mainGlobals x = some (some (.ref C))
  s : PySem.W.findIn K (.ref C) "__str__" = some (some (.builtin "BaseException.__str__"))
theorem pd_excT {X : DX} {x : Str} {C : Addr} {e : Expr} {te : ED} {p pos : Pos} (o : OwnV X.K X.mg x C) (hg : Gl X x) (he : PD X e te) (hdb : (x == ("__debug__" : Str)) = false := by decide) (hs : starEach [e] X.env = (false, eval e X.env) :: starEach [] X.env := by rfl) :
    PD X (.Call (.Name x p) [e] [] pos) (dExcT x te) :=
  ⟨pe_imp (pe_excT PySem.F.excBase_ValueError o.o.ex o.o.g o.o.kp hg he.pe hs hdb) fun σ H Q ⟨env, s, A, B, w, h⟩ => rdE_go he.mono w h fun d s1 v H1 A1 ⟨z, ed, q⟩ w1 e1 dv => by
    subst ed
    cases dv with
    | str _ hz =>
      refine ⟨z, rfl, fun t a ht ha => ?_⟩
      obtain ⟨r2, e2, f2⟩ := w1.rs.laid (o := .tup [.str z]) ht
      obtain ⟨r3, e3, f3⟩ := r2.laid (o := ExT (.ref C) t a) ha
      exact q _ _ _ r3 (e1.trans (e2.trans e3)) (.exc ⟨.ref C, o.n, .inr (.inr ⟨t, z, f3, e3.same _ _ f2, rfl, rfl⟩)⟩ (.cons (.str z hz) .nil)), mono_excT he.mono⟩
def SXs (K : PySem.W.Frag) (ns : List Str) : Prop := ∀ y ∈ ns, ∃ C : Addr, PySem.W.nsIn K mainGlobals y = some (some (.ref C)) ∧ PySem.W.findIn K (.ref C) "__str__" = some (some (.builtin "BaseException.__str__")) ∧ PySem.W.subIn K (.ref C) (.type "BaseException") = some true
theorem SXs.nil {K : PySem.W.Frag} : SXs K [] := fun _ h => nomatch h
theorem SXs.cons {K : PySem.W.Frag} {y : Str} {ns : List Str} {C : Addr} (n : PySem.W.nsIn K mainGlobals y = some (some (.ref C))) (f : PySem.W.findIn K (.ref C) "__str__" = some (some (.builtin "BaseException.__str__"))) (b : PySem.W.subIn K (.ref C) (.type "BaseException") = some true) (h : SXs K ns) : SXs K (y :: ns) :=
  List.forall_mem_cons.mpr ⟨⟨C, n, f, b⟩, h⟩
def strXF (ns : List Str) (s : Sto) : List D → Option D
  | [.exc y ks xs] => match ks, xs with
    | [k], [.str z] => if y ∈ ns ∧ k = ("" : Str) then some (.str z) else none
    | _, _ => none
  | xs => strEF s xs
def rStrT (K : PySem.W.Frag) : List V → Hp → VK → Prop := fun xs H Q => ∃ (a t C : Addr) (z : Str), xs = [.ref a] ∧ H a = some (ExT (.ref C) t a) ∧ H t = some (.tup [.str z]) ∧ PySem.W.findIn K (.ref C) "__str__" = some (some (.builtin "BaseException.__str__")) ∧ PySem.W.subIn K (.ref C) (.type "BaseException") = some true ∧ Q (.str z) H
theorem call_strT {X : Cx} (hu : X.A.units + 64 < cLine) : CallR X (.type "str") (rStrT X.K) := by
  intro pins s σ H xs us Q I r h
  obtain ⟨a, t, C, z, rfl, ha, ht, hf, hb, q⟩ := h
  obtain ⟨u, rfl, ru⟩ := vals1 r
  obtain rfl : u = Value.ref a := ru
  obtain ⟨⟨oe, vs, o1, o2, o3, o4⟩, _⟩ := (show ObjOk X.prog X.w H s.heap a (ExT (.ref C) t a) from I.hok a _ ha)
  obtain ⟨_, its, rv, ot, t1, t2, n3, t3⟩ := (show ObjOk X.prog X.w H s.heap t (.tup [.str z]) from I.hok t _ ht)
  obtain ⟨u1, rfl, r1⟩ := vals1 rv
  obtain ⟨tk, rfl⟩ := r1
  exact PySem.P.str_of_C_one (K := X.K) (C := C) (by omega) ⟨I.kIn, oe, vs, o1, o2.1, o3, o4⟩ ⟨ot, _, t1, t2, t3⟩ hf hb ⟨.str z, H, I, ⟨tk, rfl⟩, q⟩
theorem callx_strX {X : Cx} {ns : List Str} (hu : X.A.units + 64 < cLine) (hg : X.A.guards = some []) (S : SXs X.K ns) : CallX X (.type "str") (strXF ns) := by
  obtain ⟨r, c, l⟩ := callx_strE (X := X) hu hg
  refine ⟨_, c.or (call_strT hu), fun xs s vs H A B Q z R dv e q => ?_⟩
  unfold strXF at e
  split at e
  · rename_i y ks xs
    split at e
    · rename_i k z'
      split at e
      · rename_i hy
        cases e
        obtain ⟨v, rfl, dx⟩ := one_of dv
        cases dx with
        | exc h1 h2 =>
          obtain ⟨cls, hcl, hh⟩ := h1
          obtain ⟨C, hn, hf, hb⟩ := S y hy.1
          rw [hn] at hcl; cases hcl
          rcases hh with ⟨f1, f2, f3⟩ | ⟨d, f1, f2, f3, f4, f5⟩ | ⟨t, z2, f1, f2, f3, f4⟩
          · cases f3
          · exact absurd (by rw [hy.2]) f5
          · subst f3
            cases h2 with
            | cons h3 _ =>
              cases h3 with
              | str _ hz =>
                exact .inr ⟨_, t, C, z', rfl, (fz_of f1).1, (fz_of f2).1, hf, hb, q.here R (.str _ hz)⟩
      · cases e
    · cases e
  · exact .inl (l _ _ _ _ _ _ _ _ R dv e q)
end Dl
namespace Fa
open PySem PySem.Spec PyProof.Rows L2 Dl Bk
def IsU (x : D) : Prop := ∃ r w : Str, x = .tup [.str r, .str w] ∧ (sgnIn az r = true ∧ 1 ≤ r.length ∧ r.length ≤ 40) ∧ sgnIn AZ w = true ∧ 1 ≤ w.length ∧ w.length ≤ 12
theorem isW_u {K : Int} {x : D} (h : IsW K x) : IsU (Fb.pairD x) := by
  obtain ⟨r, w, c, k, rfl, h⟩ := h
  exact ⟨r, w, rfl, ⟨h.r1, h.r2, h.r3⟩, h.w1, h.w2, h.w3⟩
def sp__law_uses : SpD := fun ds s Q _ => ∃ (b : Int) (tl : Sto) (most : Int) (m : Nat) (ws rows : List D), ds = [.ref 1, .tup [.lst ws, .lst rows], .int most] ∧ StT b tl s ∧ b ≤ 90000000 ∧ 0 ≤ most ∧ most ≤ 200 ∧ BookOk m ws rows ∧ m ≤ 1000 ∧
  ∀ us u s', us.length ≤ 200 → (∀ x ∈ us, IsU x) → StT (b + 500000) (tl ++ u) s' → Q (.lst us) s'
def b__law_uses : SD := (dSeq (dAsg (dLst dNil) (gN 3))
  (dSeq (dAsg (dLc (iW (dBin (oF idxF) (dVar 1) (dC (.int 0)))) (CT.g (.one 8)) dYes (dSl (dVar 8) dNoP (dP (dC (.int 2)))) [8]) (gN 4))
  (dSeq (dWhile (dAnd (dTest (dBin (oF ltF) (dCB lenF (dCons (dVar 3) dNil)) (dVar 2))) (dTest (dBin (oF gtBF) (dCall sp__law_dip [] (dCons (dVar 0) (dCons (dC (.int 9)) dNil))) (dC (.int 0))))) (dSeq (dAsg (dTup (dCons (dCall sp__law_text [] (dCons (dVar 0) (dCons (dC (.str "ab")) (dCons (dC (.int 3)) dNil)))) (dCons (dCall sp__law_text [] (dCons (dVar 0) (dCons (dC (.str "AB")) (dCons (dC (.int 2)) dNil)))) dNil))) (gN 6))
  (dSeq (dIfS (dAnd (dTest (dBin (oF neF) (dVar 4) (dLst dNil))) (dTest (dBin (oF gtBF) (dCall sp__law_dip [] (dCons (dVar 0) (dCons (dC (.int 5)) dNil))) (dC (.int 0))))) (dAsg (dBin (oF idxF) (dVar 4) (dCall sp__law_dip [] (dCons (dVar 0) (dCons (dCB lenF (dCons (dVar 4) dNil)) dNil)))) (gN 6)) dNext)
  (dSeq (dAsg (dBin (oF idxF) (dLst (dCons (dC (.int 1)) (dCons (dC (.int 1)) (dCons (dC (.int 2)) (dCons (dC (.int 9)) (dCons (dC (.int 10)) (dCons (dBin (oF addF) (dC (.int 1)) (dCall sp__law_dip [] (dCons (dVar 0) (dCons (dC (.int 30)) dNil)))) dNil))))))) (dCall sp__law_dip [] (dCons (dVar 0) (dCons (dC (.int 6)) dNil)))) (gN 7))
  (dAsg (dBin (oF addF) (dVar 3) (dBin (oF mulLF) (dLst (dCons (dVar 6) dNil)) (dCB min2F (dCons (dBin (oF subF) (dVar 2) (dCB lenF (dCons (dVar 3) dNil))) (dCons (dVar 7) dNil))))) (gN 3))))))
  (dSeq (dAsg (dListN (dCons (dVar 3) dNil)) (gN 5))
  (dRet (dLc (iW (dVar 3)) (CT.g (.one 6)) dYes (dMt fPop (dVar 5) (dCons (dCall sp__law_dip [] (dCons (dVar 0) (dCons (dCB lenF (dCons (dVar 5) dNil)) dNil))) dNil)) [6]))))))
def uses_rest : SD := (dSeq (dAsg (dBin (oF idxF) (dLst (dCons (dC (.int 1)) (dCons (dC (.int 1)) (dCons (dC (.int 2)) (dCons (dC (.int 9)) (dCons (dC (.int 10)) (dCons (dBin (oF addF) (dC (.int 1)) (dCall sp__law_dip [] (dCons (dVar 0) (dCons (dC (.int 30)) dNil)))) dNil))))))) (dCall sp__law_dip [] (dCons (dVar 0) (dCons (dC (.int 6)) dNil)))) (gN 7))
  (dAsg (dBin (oF addF) (dVar 3) (dBin (oF mulLF) (dLst (dCons (dVar 6) dNil)) (dCB min2F (dCons (dBin (oF subF) (dVar 2) (dCB lenF (dCons (dVar 3) dNil))) (dCons (dVar 7) dNil))))) (gN 3)))
theorem mono__law_uses : MonoSp sp__law_uses := fun _ _ _ _ _ _ f _ ⟨b, tl, m, k, ws, rows, h1, h2, h3, h4, h5, h6, h7, h⟩ => ⟨b, tl, m, k, ws, rows, h1, h2, h3, h4, h5, h6, h7, fun us u s' a1 a2 a3 => f _ _ (h us u s' a1 a2 a3)⟩
theorem len__law_uses : ∀ ds s Q E, sp__law_uses ds s Q E → ds.length = ["pot", "book", "most"].length := fun _ _ _ _ ⟨_, _, _, _, _, _, h, _⟩ => by rw [h]; rfl
theorem mul_one {s : Sto} {x : D} {k : Int} (h0 : 0 ≤ k) (h1 : k ≤ 1000) : mulLF s (.lst [x]) (.int k) = some (.lst (List.replicate k.toNat x)) := by
  show (if (-(2 ^ 63) ≤ k ∧ k < 2 ^ 63) ∧ 1 * k.toNat ≤ sizeLine then some (D.lst (List.replicate k.toNat [x]).flatten) else none) = _
  rw [if_pos ⟨⟨by omega, by omega⟩, le_line (by omega)⟩, List.flatten_replicate_singleton]
theorem len_r {s : Sto} {l : Nat} {xs : List D} (h : s[l]? = some (some (.lst xs))) : lenF s [.ref l] = some (.int xs.length) := by
  show (seqL s (.ref l)).map _ = _
  rw [seqL_ref h]; rfl
section
variable (ds : List D) (s : Sto) (Q : D → Sto → Prop) (E : XD)
theorem pf__law_uses (h : sp__law_uses ds s Q E) : b__law_uses (endsOf Q) (envD ["pot", "book", "most", "found", "pairs", "left", "pair", "times", "word"] ds) s := by
  obtain ⟨b, tl, most, m, ws, rows, rfl, S, hb, m0, m1, hB, hm, q⟩ := h
  refine ⟨Nat.zero_le _, _, rfl, _, rfl, _, _, isW_lst, le_line (by have := hB.wl; omega), ?_⟩
  refine lcD_pure (fun _ => true) Fb.pairD trivial (fun e he k1 k0 h1 h0 => ?_) ?_
  · obtain ⟨r', w', c', k', rfl, _⟩ := hB.ww e he
    exact ⟨_, rfl, _, rfl, _, rfl, h1 rfl⟩
  rw [List.filter_eq_self.mpr (fun _ _ => rfl)]
  refine ⟨fun mm env s' => ∃ (us : List D) (pr tm : Option D), mm = most.toNat - us.length ∧ env = [some (.ref 1), some (.tup [.lst ws, .lst rows]), some (.int most), some (.lst us), some (.lst (ws.map Fb.pairD)), none, pr, tm, none] ∧ (us.length : Int) ≤ most ∧ (∀ x ∈ us, IsU x) ∧ StT (b + 2100 * us.length) tl s', ⟨_, [], none, none, rfl, rfl, by simpa using m0, (fun _ h => nomatch h), S.up (by simp)⟩, ?_⟩
  rintro mm env s' ⟨us, pr, tm, rfl, rfl, hl, hU, S1⟩
  refine ⟨_, rfl, _, rfl, _, rfl, _, rfl, _, rfl, ?_⟩
  have out : ∀ (s2 : Sto) (pr tm : Option D), StT (b + 2100 * us.length + 1) tl s2 →
      (dSeq (dAsg (dListN (dCons (dVar 3) dNil)) (gN 5))
  (dRet (dLc (iW (dVar 3)) (CT.g (.one 6)) dYes (dMt fPop (dVar 5) (dCons (dCall sp__law_dip [] (dCons (dVar 0) (dCons (dCB lenF (dCons (dVar 5) dNil)) dNil))) dNil)) [6]))) (endsOf Q) [some (.ref 1), some (.tup [.lst ws, .lst rows]), some (.int most), some (.lst us), some (.lst (ws.map Fb.pairD)), none, pr, tm, none] s2 := by
    intro s2 pr tm S2
    refine ⟨_, rfl, _, _, rfl, rfl, ?_⟩
    have L2 := S2.len
    refine ⟨_, rfl, _, _, isW_lst, le_line (by omega), ?_⟩
    refine lcD_run (fun rest acc s3 => ∃ left : List D, rest.length = left.length ∧ acc.length + rest.length = us.length ∧ (∀ x ∈ left, IsU x) ∧ (∀ x ∈ acc, IsU x) ∧ StT (b + 2100 * us.length + 1 + acc.length) (tl ++ [some (.lst left)]) s3) ?_ (acc := []) ⟨us, rfl, by simp, hU, (fun _ h => nomatch h), S2.app.up (by simp)⟩ ?_
    · rintro d rest acc s3 ⟨left, h1, h2, h3, h4, S3⟩ k1 k0 g1 g0
      rw [List.length_cons] at h1 h2
      have g3 := (S3.get tl.length).trans get_last
      rw [← L2] at g3
      refine ⟨trivial, ?_⟩
      refine ⟨_, rfl, _, _, rfl, g3, ?_⟩
      refine ⟨_, rfl, _, rfl, _, len_r g3, _, _, _, rfl, S3, by omega, by omega, by omega, fun i s4 i0 i1 S4 => ?_⟩
      have g4 := (S4.get tl.length).trans get_last
      rw [← L2] at g4
      have hi : i.toNat < left.length := by omega
      have hp : fPop left [.int i] = some (left[i.toNat], left.eraseIdx i.toNat) := by
        show (if -(2 ^ 63) ≤ i ∧ i < 2 ^ 63 then (match ixN left.length i with
          | some k => (left[k]?).map fun y => (y, left.eraseIdx k)
          | none => none) else none) = _
        rw [if_pos ⟨by omega, by omega⟩, ixN_in i0 (by omega)]
        show (left[i.toNat]?).map _ = _
        rw [List.getElem?_eq_getElem hi]; rfl
      refine ⟨_, _, _, g4, hp, ?_⟩
      have S5 := S4.set tl.length (some (.lst (left.eraseIdx i.toNat)))
      rw [set_last, ← L2] at S5
      refine g1 _ _ ⟨left.eraseIdx i.toNat, by rw [List.length_eraseIdx_of_lt hi]; omega, by rw [List.length_append, List.length_singleton]; omega, fun x hx => h3 x (List.mem_of_mem_eraseIdx hx), fun x hx => ?_, S5.up (by push_cast; simp; omega)⟩
      rcases List.mem_append.mp hx with h | h
      · exact h4 x h
      · rw [List.mem_singleton.mp h]; exact h3 _ (List.getElem_mem hi)
    · rintro ys s3 ⟨left, h1, h2, h3, h4, S3⟩
      rw [List.nil_append] at h2 h4 S3
      refine ⟨trivial, ?_⟩
      exact q ys _ s3 (by simp at h2; omega) h4 (S3.up (by simp at h2; omega))
  refine ifB (fun hlt => ?_) fun _ => ifF (out s' pr tm (S1.up (by omega)))
  have hlt := of_decide_eq_true hlt
  refine ⟨_, rfl, _, _, 9, rfl, S1, by omega, by decide, by decide, fun i1 s1 a1 b1 S2 => ?_⟩
  refine ⟨_, rfl, _, rfl, ?_⟩
  refine ifB (fun _ => ?_) fun _ => out s1 pr tm S2
  refine ⟨fun env s4 => ∃ (us' : List D) (pr tm : Option D), us.length < us'.length ∧ env = [some (.ref 1), some (.tup [.lst ws, .lst rows]), some (.int most), some (.lst us'), some (.lst (ws.map Fb.pairD)), none, pr, tm, none] ∧ (us'.length : Int) ≤ most ∧ (∀ x ∈ us', IsU x) ∧ StT (b + 2100 * us'.length) tl s4, ?_, ?_⟩
  · rintro e' s4 ⟨us', pr', tm', h1, rfl, h2, h3, S4⟩
    exact ⟨_, (by omega : most.toNat - us'.length < most.toNat - us.length), us', pr', tm', rfl, rfl, h2, h3, S4⟩
  have fin : ∀ (N : En → Sto → Prop) (pr : D) (tm : Option D) (s5 : Sto), IsU pr → StT (b + 2100 * us.length + 2050) tl s5 → (∀ env s4, (∃ (us' : List D) (pr tm : Option D), us.length < us'.length ∧ env = [some (.ref 1), some (.tup [.lst ws, .lst rows]), some (.int most), some (.lst us'), some (.lst (ws.map Fb.pairD)), none, pr, tm, none] ∧ (us'.length : Int) ≤ most ∧ (∀ x ∈ us', IsU x) ∧ StT (b + 2100 * us'.length) tl s4) → N env s4) →
      ∀ (rt : D → Sto → Prop) (bk : En → Sto → Prop), uses_rest ⟨N, rt, bk, N⟩ [some (.ref 1), some (.tup [.lst ws, .lst rows]), some (.int most), some (.lst us), some (.lst (ws.map Fb.pairD)), none, some pr, tm, none] s5 := by
    intro N pr tm s5 hp S5 hN rt bk
    refine ⟨_, rfl, _, _, 30, rfl, S5, by omega, by decide, by decide, fun i s6 i0 i1 S6 => ?_⟩
    refine ⟨_, rfl, Dl.ll, _, rfl, _, _, 6, rfl, S6, by omega, by decide, by decide, fun j s7 j0 j1 S7 => ?_⟩
    obtain ⟨x, hx, hm⟩ := atI_mem (xs := [D.int 1, .int 1, .int 2, .int 9, .int 10, .int (1 + i)]) j0 (by simpa using j1)
    obtain ⟨t, rfl, t0, t1⟩ : ∃ t : Int, x = .int t ∧ 1 ≤ t ∧ t ≤ 30 := by
      rcases (by simpa using hm : x = D.int 1 ∨ x = .int 2 ∨ x = .int 9 ∨ x = .int 10 ∨ x = .int (1 + i)) with rfl | rfl | rfl | rfl | rfl
      · exact ⟨_, rfl, by omega, by omega⟩
      · exact ⟨_, rfl, by omega, by omega⟩
      · exact ⟨_, rfl, by omega, by omega⟩
      · exact ⟨_, rfl, by omega, by omega⟩
      · exact ⟨_, rfl, by omega, by omega⟩
    obtain ⟨k, hk, k0, k1⟩ : ∃ k : Int, (if t < most - us.length then t else most - us.length) = k ∧ 1 ≤ k ∧ k ≤ most - us.length := by
      refine ⟨_, rfl, ?_, ?_⟩
      · split <;> omega
      · split <;> omega
    refine ⟨_, hx, _, rfl, _, rfl, Dl.ll, _, rfl, _, rfl, _, rfl, _, rfl, _, rfl, _, rfl, _, mul_one (k := if t < most - us.length then t else most - us.length) (by rw [hk]; omega) (by rw [hk]; omega), ?_⟩
    rw [hk]
    refine ⟨_, addl (le_line (by rw [List.length_replicate]; omega)), ?_⟩
    refine hN _ _ ⟨us ++ List.replicate k.toNat pr, _, _, by rw [List.length_append, List.length_replicate]; omega, rfl, by rw [List.length_append, List.length_replicate]; omega, fun x hx => ?_, S7.up (by rw [List.length_append, List.length_replicate]; omega)⟩
    rcases List.mem_append.mp hx with h | h
    · exact hU x h
    · rw [(List.mem_replicate.mp h).2]; exact hp
  refine ⟨_, rfl, _, _, "ab", 3, rfl, S2, by omega, by decide, by decide, by decide, by decide, fun l1 s8 c1 c2 c3 S8 => ?_⟩
  refine ⟨_, rfl, _, _, "AB", 2, rfl, S8, by omega, by decide, by decide, by decide, by decide, fun l2 s9 d1 d2 d3 S9 => ?_⟩
  have hp : IsU (.tup [.str (strL l1), .str (strL l2)]) := ⟨_, _, rfl, ⟨sgn_sub (z := "ab") (by decide +kernel) c3, by rw [strL_length]; omega, by rw [strL_length]; omega⟩, sgn_sub (z := "AB") (by decide +kernel) d3, by rw [strL_length]; omega, by rw [strL_length]; omega⟩
  refine ⟨Dl.ll, ?_⟩
  refine ⟨_, rfl, Nat.zero_le _, _, ne_l0, _, rfl, ?_⟩
  refine ifB (fun hne => ?_) fun _ => ifF (fin _ _ _ s9 hp (S9.up (by omega)) (fun _ _ h => h) _ _)
  have hne : ws.map Fb.pairD ≠ [] := by
    intro z
    rw [decide_eq_true z] at hne
    cases hne
  have hpos : 0 < (ws.map Fb.pairD).length := List.length_pos_iff.mpr hne
  refine ⟨_, rfl, _, _, 5, rfl, S9, by omega, by decide, by decide, fun i2 s10 e1 e2 S10 => ?_⟩
  refine ⟨_, rfl, _, rfl, ?_⟩
  refine ifB (fun _ => ?_) fun _ => fin _ _ _ s10 hp (S10.up (by omega)) (fun _ _ h => h) _ _
  have hwl := hB.wl
  rw [List.length_map] at hpos
  refine ⟨_, rfl, _, rfl, _, rfl, _, rfl, _, _, _, rfl, S10, by omega, by rw [List.length_map]; omega, by rw [List.length_map]; omega, fun i3 s11 f1 f2 S11 => ?_⟩
  obtain ⟨x, hx, hm⟩ := atI_mem (xs := ws.map Fb.pairD) f1 f2
  obtain ⟨w, hw, rfl⟩ := List.mem_map.mp hm
  refine ⟨_, hx, ?_⟩
  exact fin _ _ _ s11 (isW_u (hB.ww w hw)) (S11.up (by omega)) (fun _ _ h => h) _ _
end
end Fa
namespace Fa
open PySem PySem.Spec PyProof.Rows L2 Dl Bk
def isPr : D → Bool
  | .tup [a, b] => sgnF "abcdefghijklmnopqrstuvwxyz" 40 a && sgnF "ABCDEFGHIJKLMNOPQRSTUVWXYZ" 12 b
  | _ => false
def sp_is_pair : SpD := tells isPr
theorem mono_is_pair : MonoSp sp_is_pair := mono_tells
theorem len_is_pair : ∀ ds s Q E, sp_is_pair ds s Q E → ds.length = ["thing"].length := len_tells (p := "thing")
def b_is_pair : SD := (dRet (dAndV (dUn (isiF "tuple") (dVar 0)) (dAndV (dBin (oF eqF) (dCB lenF (dCons (dVar 0) dNil)) (dC (.int 2))) (dAndV (dCall sp_is_reading [] (dCons (dBin (oF idxF) (dVar 0) (dC (.int 0))) dNil)) (dCall sp_is_writing [] (dCons (dBin (oF idxF) (dVar 0) (dC (.int 1))) dNil))))))
def sp_need_uses : SpD := fun ds s Q _ => ∃ us : List D, ds = [.lst us] ∧ us.length ≤ 60000 ∧ (∀ u ∈ us, IsU u) ∧ Q .non s
theorem mono_need_uses : MonoSp sp_need_uses := fun _ _ _ _ _ _ g _ ⟨x, h1, h2, h3, q⟩ => ⟨x, h1, h2, h3, g _ _ q⟩
theorem len_need_uses : ∀ ds s Q E, sp_need_uses ds s Q E → ds.length = ["thing"].length := fun _ _ _ _ ⟨x, h1, _⟩ => by rw [h1]; rfl
def b_need_uses : SD := (dIfS (dOr (dNot (dTest (dUn (isiF "list") (dVar 0)))) (dNot (dTest (dCB allF (dCons (dLc (iW (dVar 0)) (CT.g (.one 1)) dYes (dCall sp_is_pair [] (dCons (dVar 1) dNil)) [1]) dNil))))) dNever dNext)
theorem IsU.pr {x : D} (h : IsU x) : isPr x = true := by
  obtain ⟨r, w, rfl, ⟨a, b, c⟩, d, e, f⟩ := h
  show ((sgnIn az r && (decide (1 ≤ (r.length : Int)) && decide ((r.length : Int) ≤ 40))) && (sgnIn AZ w && (decide (1 ≤ (w.length : Int)) && decide ((w.length : Int) ≤ 12)))) = true
  rw [a, d, decide_eq_true (by omega), decide_eq_true (by omega), decide_eq_true (by omega), decide_eq_true (by omega)]; rfl
theorem IsU.sz {x : D} (h : IsU x) : szB NN x = true := by
  obtain ⟨r, w, rfl, ⟨a, b, c⟩, d, e, f⟩ := h
  refine sz_tup.mpr ⟨by show 2 ≤ 1000000; decide, fun y hy => ?_⟩
  rcases (by simpa using hy : y = D.str r ∨ y = .str w) with rfl | rfl
  · rw [sz_str]; show _ ≤ 1000000; omega
  · rw [sz_str]; show _ ≤ 1000000; omega
def cnt (us : List D) (k : List Key) : Nat := (us.filter fun u => decide (pairK u = k)).length
theorem cnt_nil {k : List Key} : cnt [] k = 0 := rfl
theorem cnt_snoc {us : List D} {u : D} {k : List Key} : cnt (us ++ [u]) k = cnt us k + if pairK u = k then 1 else 0 := by
  unfold cnt
  rw [List.filter_append, List.length_append]
  by_cases h : pairK u = k
  · rw [if_pos h, List.filter_cons_of_pos (by simpa using h)]; rfl
  · rw [if_neg h, List.filter_cons_of_neg (by simpa using h)]; rfl
section
variable {κ α : Type} [DecidableEq κ]
theorem getP_app {es fs : List (κ × α)} {k : κ} : getP (es ++ fs) k = (getP es k).or (getP fs k) := by
  induction es with
  | nil => simp [getP]
  | cons p es ih =>
    rw [List.cons_append, getP_cons, getP_cons, ih]
    split <;> rfl
theorem getP_none {es : List (κ × α)} {k : κ} : getP es k = none ↔ k ∉ es.map (·.1) := by
  induction es with
  | nil => simp [getP]
  | cons p es ih =>
    rw [getP_cons, List.map_cons, List.mem_cons]
    by_cases h : p.1 = k
    · rw [if_pos h]; simp [h]
    · rw [if_neg h, ih]
      constructor
      · rintro a (b | b)
        · exact h b.symm
        · exact a b
      · exact fun a b => a (.inr b)
theorem any_iff {es : List (κ × α)} {k : κ} : (es.any fun p => decide (p.1 = k)) = true ↔ k ∈ es.map (·.1) := by
  rw [List.any_eq_true, List.mem_map]
  exact ⟨fun ⟨p, h, e⟩ => ⟨p, h, of_decide_eq_true e⟩, fun ⟨p, h, e⟩ => ⟨p, h, decide_eq_true e⟩⟩
theorem getP_map {es : List (κ × α)} {k j : κ} {v : α} : getP (es.map fun p => if p.1 = k then (p.1, v) else p) j = if j = k ∧ k ∈ es.map (·.1) then some v else getP es j := by
  induction es with
  | nil => simp [getP]
  | cons p es ih =>
    rw [List.map_cons, getP_cons, getP_cons, ih, List.map_cons]
    by_cases h : p.1 = k
    · rw [if_pos h]
      by_cases hj : j = k
      · subst hj
        rw [if_pos h, if_pos ⟨rfl, by rw [h]; exact List.mem_cons_self⟩]
      · have : ¬ p.1 = j := fun z => hj (z.symm.trans h)
        rw [if_neg this, if_neg this, if_neg (fun z => hj z.1), if_neg (fun z => hj z.1)]
    · rw [if_neg h]
      by_cases hj : p.1 = j
      · rw [if_pos hj, if_pos hj, if_neg]
        rintro ⟨z, _⟩
        exact h (hj.trans z)
      · rw [if_neg hj, if_neg hj]
        by_cases hm : j = k ∧ k ∈ es.map (·.1)
        · rw [if_pos hm, if_pos ⟨hm.1, List.mem_cons_of_mem _ hm.2⟩]
        · rw [if_neg hm, if_neg]
          rintro ⟨a, b⟩
          rcases List.mem_cons.mp b with b | b
          · exact h b.symm
          · exact hm ⟨a, b⟩
theorem getP_put {es : List (κ × α)} {k j : κ} {v : α} : getP (putP es k v) j = if j = k then some v else getP es j := by
  unfold putP
  by_cases h : (es.any fun p => decide (p.1 = k)) = true
  · rw [if_pos h, getP_map]
    have hk := any_iff.mp h
    by_cases hj : j = k
    · rw [if_pos ⟨hj, hk⟩, if_pos hj]
    · rw [if_neg (fun z => hj z.1), if_neg hj]
  · rw [if_neg h, getP_app]
    have hk : k ∉ es.map (·.1) := fun z => h (any_iff.mpr z)
    by_cases hj : j = k
    · subst hj
      rw [if_pos rfl, getP_none.mpr hk, getP_cons]; simp
    · rw [if_neg hj, getP_cons, if_neg (fun z => hj z.symm)]
      cases getP es j <;> rfl
theorem putP_keys {es : List (κ × α)} {k : κ} {v : α} : (putP es k v).map (·.1) = if k ∈ es.map (·.1) then es.map (·.1) else es.map (·.1) ++ [k] := by
  unfold putP
  by_cases h : (es.any fun p => decide (p.1 = k)) = true
  · rw [if_pos h, if_pos (any_iff.mp h), List.map_map]
    refine List.map_congr_left fun p _ => ?_
    show (if p.1 = k then (p.1, v) else p).1 = p.1
    split <;> rfl
  · rw [if_neg h, if_neg (fun z => h (any_iff.mpr z)), List.map_append]; rfl
theorem putP_nd {es : List (κ × α)} {k : κ} {v : α} (h : (es.map (·.1)).Nodup) : ((putP es k v).map (·.1)).Nodup := by
  rw [putP_keys]
  split
  · exact h
  · rename_i hn
    rw [List.nodup_append]
    refine ⟨h, by simp, fun a ha c hc e => ?_⟩
    rw [List.mem_singleton.mp hc] at e
    exact hn (e ▸ ha)
end
structure TimesOk (us : List D) (es : List (List Key × D)) : Prop where
  nd : (es.map (·.1)).Nodup
  get : ∀ k, getP es k = if cnt us k = 0 then none else some (.int (cnt us k : Nat))
  len : es.length ≤ us.length
theorem TimesOk.getD {us : List D} {es : List (List Key × D)} (h : TimesOk us es) (k : List Key) : (getP es k).getD (.int 0) = .int (cnt us k : Nat) := by
  rw [h.get k]
  split
  · rename_i e; rw [e]; rfl
  · rfl
theorem TimesOk.put {us : List D} {es : List (List Key × D)} (h : TimesOk us es) (u : D) : TimesOk (us ++ [u]) (putP es (pairK u) (.int ((cnt us (pairK u) : Nat) + 1))) := by
  refine ⟨putP_nd h.nd, fun k => ?_, ?_⟩
  · rw [getP_put, cnt_snoc]
    by_cases e : k = pairK u
    · subst e
      rw [if_pos rfl, if_pos rfl, if_neg (by omega)]
      rfl
    · have e2 : (if pairK u = k then 1 else 0) = 0 := if_neg (fun z => e z.symm)
      rw [if_neg e, e2, Nat.add_zero]
      exact h.get k
  · have := putP_len es (pairK u) (D.int ((cnt us (pairK u) : Nat) + 1))
    rw [List.length_append, List.length_singleton]
    have := h.len
    omega
def sp_times_of : SpD := fun ds s Q _ => ∃ us : List D, ds = [.lst us] ∧ us.length ≤ 60000 ∧ (∀ u ∈ us, IsU u) ∧ ∀ es, TimesOk us es → Q (DV.t es).d (s ++ [none])
theorem mono_times_of : MonoSp sp_times_of := fun _ _ _ _ _ _ g _ ⟨x, h1, h2, h3, q⟩ => ⟨x, h1, h2, h3, fun es h => g _ _ (q es h)⟩
theorem len_times_of : ∀ ds s Q E, sp_times_of ds s Q E → ds.length = ["uses"].length := fun _ _ _ _ ⟨x, h1, _⟩ => by rw [h1]; rfl
def b_times_of : SD := (dSeq (dAsg dDNewT (gN 1))
  (dSeq (dFor (iW (dVar 0)) (gN 2) (dDPut (dVar 1) (dVar 2) (dBin (oF addF) (dDGet2 (dVar 1) (dVar 2) (dC (.int 0))) (dC (.int 1)))))
  (dRet (dFrzD (dVar 1)))))
section
variable (ds : List D) (s : Sto) (Q : D → Sto → Prop) (E : XD)
theorem pf_is_pair (h : sp_is_pair ds s Q E) : b_is_pair (endsOf Q) (envD ["thing"] ds) s := by
  obtain ⟨x, rfl, hx, q⟩ := h
  cases x with
  | frl _ => cases hx
  | ref _ => cases hx
  | exc _ _ _ => cases hx
  | tup xs =>
    obtain ⟨_, hxs⟩ := sz_tup.mp hx
    refine ⟨_, rfl, _, rfl, _, rfl, ?_⟩
    refine ⟨_, rfl, _, rfl, _, eq_ii, _, rfl, ?_⟩
    by_cases h2 : ∃ a b, xs = [a, b]
    · obtain ⟨a, b, rfl⟩ := h2
      refine ifT ⟨_, rfl, _, rfl, _, rfl, hxs a (by simp), _, rfl, ifB (fun ha => ?_) fun ha => ?_⟩
      · refine ⟨_, rfl, _, rfl, _, rfl, hxs b (by simp), ?_⟩
        have e : isPr (.tup [a, b]) = (sgnF "abcdefghijklmnopqrstuvwxyz" 40 a && sgnF "ABCDEFGHIJKLMNOPQRSTUVWXYZ" 12 b) := rfl
        rw [e, ha] at q
        exact q
      · have e : isPr (.tup [a, b]) = (sgnF "abcdefghijklmnopqrstuvwxyz" 40 a && sgnF "ABCDEFGHIJKLMNOPQRSTUVWXYZ" 12 b) := rfl
        rw [e, ha] at q
        exact q
    · have hw : isPr (.tup xs) = false := by
        unfold isPr
        split
        · rename_i h; cases h; exact absurd ⟨_, _, rfl⟩ h2
        · rfl
      have hl : ¬ ((xs.length : Nat) : Int) = 2 := fun h => h2 (by
        match xs, h with
        | [], h => simp at h
        | [_], h => simp at h
        | [a, b], _ => exact ⟨a, b, rfl⟩
        | _ :: _ :: _ :: _, h => simp at h; omega)
      rw [hw] at q
      have e : (((xs.length : Nat) : Int) == 2) = false := by simpa using hl
      rw [e]
      exact q
  | _ => exact ⟨_, rfl, _, rfl, _, rfl, q⟩
theorem pf_need_uses (h : sp_need_uses ds s Q E) : b_need_uses (endsOf Q) (envD ["thing", "pair"] ds) s := by
  obtain ⟨us, rfl, hl, hU, q⟩ := h
  refine ⟨_, rfl, _, rfl, _, rfl, ?_⟩
  refine all_tells isPr rfl (by show _ ≤ 1000000; omega) (fun d hd P p => ⟨_, rfl, d, rfl, (hU d hd).sz, p⟩) ⟨_, rfl, ?_⟩
  rw [List.all_eq_true.mpr fun u hu => (hU u hu).pr]
  exact q
theorem pf_times_of (h : sp_times_of ds s Q E) : b_times_of (endsOf Q) (envD ["uses", "found", "pair"] ds) s := by
  obtain ⟨us, rfl, hl, hU, q⟩ := h
  refine ⟨_, rfl, _, _, isW_lst, ?_⟩
  refine forD_run (fun rest env s' => ∃ (done : List D) (es : List (List Key × D)) (pr : Option D), us = done ++ rest ∧ TimesOk done es ∧ env = [some (.lst us), some (.ref s.length), pr] ∧ s' = s ++ [some (DV.t es).mo]) ?_ ?_ ?_
  · rintro u rest env s' ⟨done, es, pr, hu, hT, rfl, rfl⟩ N hN
    have hmem : u ∈ us := by rw [hu]; simp
    obtain ⟨r, w, rfl, _⟩ := hU u hmem
    have g : (s ++ [some (DV.t es).mo])[s.length]? = some (some (DV.t es).mo) := by simp
    have hlen : done.length ≤ us.length := by rw [hu, List.length_append]; omega
    refine ⟨trivial, ?_⟩
    refine ⟨_, rfl, by rw [dictD_mo g]; rfl, _, rfl, .t es, getP es [.inr r, .inr w], dictD_mo g, rfl, ?_⟩
    rw [hT.getD]
    refine ⟨_, rfl, _, rfl, _, rfl, _, .t es, .t (putP es [.inr r, .inr w] (.int ((cnt done [.inr r, .inr w] : Nat) + 1))), rfl, dictM_mo g, rfl, Nat.lt_of_le_of_lt (by show es.length ≤ 60000; have := hT.len; omega) (Nat.lt_of_lt_of_le (by decide : 60000 < 100000) (le_line (by decide))), ?_⟩
    refine hN _ _ ⟨done ++ [.tup [.str r, .str w]], _, _, by rw [hu, List.append_assoc]; rfl, hT.put (.tup [.str r, .str w]), rfl, ?_⟩
    rw [List.set_append_right _ _ (Nat.le_refl _)]
    simp [pairK]
  · rintro env s' ⟨done, es, pr, hu, hT, rfl, rfl⟩
    rw [List.append_nil] at hu
    subst hu
    have g : (s ++ [some (DV.t es).mo])[s.length]? = some (some (DV.t es).mo) := by simp
    refine ⟨trivial, _, rfl, _, .t es, rfl, dictM_mo g, ?_⟩
    have e : (s ++ [some (DV.t es).mo]).set s.length none = s ++ [none] := by
      rw [List.set_append_right _ _ (Nat.le_refl _)]; simp
    rw [e]
    exact q es hT
  · exact ⟨[], [], none, rfl, ⟨List.nodup_nil, fun k => by rw [cnt_nil]; rfl, Nat.zero_le _⟩, rfl, rfl⟩
end
end Fa
namespace Fa
open PySem PySem.Spec PyProof.Rows L2 Dl Bk
abbrev lexI : List (Int ⊕ List Nat) → List (Int ⊕ List Nat) → Bool := PyProof.Rows.lexLt PyProof.Rows.itemOrd
abbrev Tk (x : D) : List (Int ⊕ List Nat) := PySem.W.keyToks (pyD x)
def le (a b : D) : Bool := !lexI (Tk b) (Tk a)
theorem le_trans' {a b c : D} (h1 : le a b = true) (h2 : le b c = true) : le a c = true := by
  unfold le at *
  rw [Bool.not_eq_true'] at *
  cases h : lexI (Tk c) (Tk a) with
  | false => rfl
  | true =>
    rcases PyProof.Rows.lex_negTrans (O := PyProof.Rows.itemOrd) (Tk c) (Tk b) (Tk a) h with h | h
    · have z : false = true := h2.symm.trans h
      cases z
    · have z : false = true := h1.symm.trans h
      cases z
theorem le_total {a b : D} : (le a b || le b a) = true := by
  unfold le
  cases h : lexI (Tk b) (Tk a) with
  | false => rfl
  | true =>
    cases h' : lexI (Tk a) (Tk b) with
    | false => rfl
    | true =>
      have h2 : lexI (Tk b) (Tk b) = true := PyProof.Rows.lex_trans (O := PyProof.Rows.itemOrd) _ _ _ h h'
      have h3 : lexI (Tk b) (Tk b) = false := PyProof.Rows.lex_irrefl (O := PyProof.Rows.itemOrd) _
      rw [h2] at h3; cases h3
theorem toks_pair (r w : Str) : Tk (.tup [.str r, .str w]) = [.inl 1, .inr r.cps.toList, .inl 1, .inr w.cps.toList, .inl 0] := by
  show PySem.W.keyToks (.tuple [.str r, .str w]) = _
  simp [PySem.W.keyToks, PySem.W.keyToksAll]
theorem toks_inj {a b : D} (ha : IsU a) (hb : IsU b) (h : Tk a = Tk b) : a = b := by
  obtain ⟨r, w, rfl, _⟩ := ha
  obtain ⟨r', w', rfl, _⟩ := hb
  rw [toks_pair, toks_pair] at h
  injection h with _ h
  injection h with h1 h
  injection h with _ h
  injection h with h2 _
  rw [PySem.W.str_of_cps (Sum.inr.inj h1), PySem.W.str_of_cps (Sum.inr.inj h2)]
theorem lex_long : ∀ {a b : List (Int ⊕ List Nat)} (c d : List (Int ⊕ List Nat)), a.length = b.length → a ≠ b → lexI (a ++ c) (b ++ d) = lexI a b
  | [], [], _, _, _, h => absurd rfl h
  | [], _ :: _, _, _, h, _ => by simp at h
  | _ :: _, [], _, _, h, _ => by simp at h
  | x :: a, y :: b, c, d, hl, hne => by
    by_cases e : x = y
    · subst e
      have e1 : lexI (x :: a ++ c) (x :: b ++ d) = lexI (a ++ c) (b ++ d) := PyProof.Rows.lex_self (O := PyProof.Rows.itemOrd) _ _ _
      have e2 : lexI (x :: a) (x :: b) = lexI a b := PyProof.Rows.lex_self (O := PyProof.Rows.itemOrd) _ _ _
      rw [e1, e2]
      exact lex_long c d (by simpa using hl) fun z => hne (by rw [z])
    · have e1 : lexI (x :: a ++ c) (y :: b ++ d) = PyProof.Rows.itemOrd.blt x y := PyProof.Rows.lex_diff (O := PyProof.Rows.itemOrd) e
      have e2 : lexI (x :: a) (y :: b) = PyProof.Rows.itemOrd.blt x y := PyProof.Rows.lex_diff (O := PyProof.Rows.itemOrd) e
      rw [e1, e2]
theorem toks_it (k : List Key) (n : Int) : Tk (itT (k, n)) = .inl 1 :: (Tk (.tup (k.map kD)) ++ [.inl 1, .inl n, .inl 0]) := by
  show PySem.W.keyToks (.tuple [pyD (.tup (k.map kD)), .int n]) = _
  simp [PySem.W.keyToks, PySem.W.keyToksAll]
theorem le_it {k k' : List Key} {n n' : Int} (h : IsU (.tup (k.map kD))) (h' : IsU (.tup (k'.map kD))) (hne : D.tup (k.map kD) ≠ .tup (k'.map kD)) : le (itT (k, n)) (itT (k', n')) = le (.tup (k.map kD)) (.tup (k'.map kD)) := by
  unfold le
  rw [toks_it, toks_it]
  have e1 : lexI (.inl 1 :: (Tk (.tup (k'.map kD)) ++ [.inl 1, .inl n', .inl 0])) (.inl 1 :: (Tk (.tup (k.map kD)) ++ [.inl 1, .inl n, .inl 0])) = lexI (Tk (.tup (k'.map kD)) ++ [.inl 1, .inl n', .inl 0]) (Tk (.tup (k.map kD)) ++ [.inl 1, .inl n, .inl 0]) := PyProof.Rows.lex_self (O := PyProof.Rows.itemOrd) _ _ _
  rw [e1, lex_long _ _ ?_ fun z => hne (toks_inj h' h z).symm]
  obtain ⟨r, w, e, _⟩ := h
  obtain ⟨r', w', e', _⟩ := h'
  rw [e, e', toks_pair, toks_pair]; rfl
structure IsCnt (us : List D) (L : List (D × Int)) : Prop where
  ord : (L.map (·.1)).Pairwise (fun a b => le a b = true)
  nd : (L.map (·.1)).Nodup
  cn : ∀ p ∈ L, p.1 ∈ us ∧ p.2 = (cnt us (pairK p.1) : Nat)
  al : ∀ u ∈ us, u ∈ L.map (·.1)
def rowD (p : D × Int) : D := match p.1 with
  | .tup [a, b] => .tup [a, b, .int p.2]
  | x => x
theorem alike_u {a b : D} (ha : IsU a) (hb : IsU b) : PySem.W.alike (pyD a) (pyD b) = true := by
  obtain ⟨r, w, rfl, _⟩ := ha
  obtain ⟨r', w', rfl, _⟩ := hb
  show PySem.W.alike (.tuple [.str r, .str w]) (.tuple [.str r', .str w']) = true
  simp [PySem.W.alike, PySem.W.alikeAll]
end Fa
namespace Fa
open PySem PySem.Spec PyProof.Rows L2 Dl Bk
theorem sgn_app {r a b : Str} (ha : sgnIn r a = true) (hb : sgnIn r b = true) : sgnIn r (a ++ b) = true := by
  unfold sgnIn at *
  have e : (a ++ b).cps.toList = a.cps.toList ++ b.cps.toList := by
    show (a.cps ++ b.cps).toList = _
    simp
  rw [e, List.all_append, ha, hb]; rfl
def sp__law_reading : SpD := fun ds s Q _ => ∃ (b : Int) (tl : Sto) (K : Int) (ws : List D) (j : D), ds = [.ref 1, .tup [.lst ws, j]] ∧ (∀ w ∈ ws, IsW K w) ∧ ws.length ≤ 1000 ∧ StT b tl s ∧ b ≤ 90000000 ∧ ∀ (t : Str) s', sgnIn az t = true → 1 ≤ t.length → t.length ≤ 40 → StT (b + 200) tl s' → Q (.str t) s'
theorem mono__law_reading : MonoSp sp__law_reading := fun _ _ _ _ _ _ f _ ⟨b, tl, K, ws, j, h1, h2, h3, h4, h5, h⟩ => ⟨b, tl, K, ws, j, h1, h2, h3, h4, h5, fun t s' a1 a2 a3 a4 => f _ _ (h t s' a1 a2 a3 a4)⟩
theorem len__law_reading : ∀ ds s Q E, sp__law_reading ds s Q E → ds.length = ["pot", "book"].length := fun _ _ _ _ ⟨_, _, _, _, _, h, _⟩ => by rw [h]; rfl
def b__law_reading : SD := (dSeq (dAsg (dC (.str "")) (gN 2))
  (dSeq (dFor (iR1 (dCons (dBin (oF addF) (dC (.int 1)) (dCall sp__law_dip [] (dCons (dVar 0) (dCons (dBin (oF idxF) (dLst (dCons (dC (.int 2)) (dCons (dC (.int 4)) (dCons (dC (.int 40)) dNil)))) (dCall sp__law_dip [] (dCons (dVar 0) (dCons (dC (.int 3)) dNil)))) dNil)))) dNil)) (gN 3) (dIfS (dAnd (dTest (dBin (oF neF) (dBin (oF idxF) (dVar 1) (dC (.int 0))) (dLst dNil))) (dTest (dBin (oF gtBF) (dCall sp__law_dip [] (dCons (dVar 0) (dCons (dC (.int 4)) dNil))) (dC (.int 0))))) (dAsg (dBin (oF addF) (dVar 2) (dBin (oF idxF) (dBin (oF idxF) (dBin (oF idxF) (dVar 1) (dC (.int 0))) (dCall sp__law_dip [] (dCons (dVar 0) (dCons (dCB lenF (dCons (dBin (oF idxF) (dVar 1) (dC (.int 0))) dNil)) dNil)))) (dC (.int 0)))) (gN 2)) (dAsg (dBin (oF addF) (dVar 2) (dBin (oF idxF) (dC (.str "abz")) (dCall sp__law_dip [] (dCons (dVar 0) (dCons (dC (.int 3)) dNil))))) (gN 2))))
  (dRet (dSl (dVar 2) dNoP (dP (dC (.int 40)))))))
def sp_need_reading : SpD := fun ds s Q _ => ∃ r : Str, ds = [.str r] ∧ sgnIn az r = true ∧ 1 ≤ r.length ∧ r.length ≤ 40 ∧ Q .non s
theorem mono_need_reading : MonoSp sp_need_reading := fun _ _ _ _ _ _ f _ ⟨r, h1, h2, h3, h4, h⟩ => ⟨r, h1, h2, h3, h4, f _ _ h⟩
theorem len_need_reading : ∀ ds s Q E, sp_need_reading ds s Q E → ds.length = ["thing"].length := fun _ _ _ _ ⟨_, h, _⟩ => by rw [h]; rfl
def b_need_reading : SD := (dIfS (dNot (dTest (dCall sp_is_reading [] (dCons (dVar 0) dNil)))) dNever dNext)
theorem sgnF_az {r : Str} (h : sgnIn az r = true) (h1 : 1 ≤ r.length) (h2 : r.length ≤ 40) : sgnF "abcdefghijklmnopqrstuvwxyz" 40 (.str r) = true := by
  show (sgnIn az r && (decide (1 ≤ (r.length : Int)) && decide ((r.length : Int) ≤ 40))) = true
  rw [h, decide_eq_true (by omega), decide_eq_true (by omega)]; rfl
section
variable (ds : List D) (s : Sto) (Q : D → Sto → Prop) (E : XD)
theorem pf_need_reading (h : sp_need_reading ds s Q E) : b_need_reading (endsOf Q) (envD ["thing"] ds) s := by
  obtain ⟨r, rfl, h1, h2, h3, q⟩ := h
  refine ⟨_, rfl, .str r, rfl, by rw [sz_str]; show _ ≤ 1000000; omega, _, rfl, ?_⟩
  rw [sgnF_az h1 h2 h3]
  exact q
theorem pf__law_reading (h : sp__law_reading ds s Q E) : b__law_reading (endsOf Q) (envD ["pot", "book", "made", "k"] ds) s := by
  obtain ⟨b, tl, K, ws, j, rfl, hW, hwl, S, hb, q⟩ := h
  have hr : ∀ a n, (rangeD a n).length = n := fun a n => by simp [rangeD]
  refine ⟨_, rfl, Dl.ll, _, rfl, _, tl, 3, rfl, S, by omega, by decide, by decide, fun i1 s1 a1 b1 S1 => ?_⟩
  obtain ⟨x, hx, hm⟩ := three (a := D.int 2) (b := D.int 4) (c := D.int 40) a1 b1
  obtain ⟨long, rfl, hg1, hg2⟩ : ∃ z : Int, x = .int z ∧ 1 ≤ z ∧ z ≤ 40 := by
    rcases hm with rfl | rfl | rfl <;> exact ⟨_, rfl, by decide, by decide⟩
  refine ⟨_, hx, _, tl, long, rfl, S1, by omega, by omega, by omega, fun i2 s2 a2 b2 S2 => ?_⟩
  refine ⟨_, rfl, _, rfl, by omega, by omega, ?_⟩
  refine forD_run (fun rest env s' => ∃ (z : Str) (e3 : Option D), env = [some (.ref 1), some (.tup [.lst ws, j]), some (.str z), e3] ∧ sgnIn az z = true ∧ z.length + 40 * rest.length ≤ 1600 ∧ (rest.length = (1 + i2).toNat ∨ 1 ≤ z.length) ∧ StT (b + 100 - 2 * rest.length) tl s') ?_ ?_ ⟨"", none, rfl, rfl, by rw [hr]; show 0 + _ ≤ _; omega, .inl (by rw [hr]), S2.up (by rw [hr]; omega)⟩
  · rintro d rest env s' ⟨z, e3, rfl, hz, hl, hc, S3⟩ N hN
    rw [List.length_cons] at hl S3
    refine ⟨trivial, ?_⟩
    have fin : ∀ (y : Str) s4, sgnIn az y = true → 1 ≤ y.length → y.length ≤ 40 → StT (b + 100 - 2 * rest.length) tl s4 → N [some (.ref 1), some (.tup [.lst ws, j]), some (.str (z ++ y)), some d] s4 := fun y s4 y1 y2 y3 S4 => by
      have e : (z ++ y).length = z.length + y.length := strLen_append _ _
      exact hN _ _ ⟨_, _, rfl, sgn_app hz y1, by omega, .inr (by omega), S4⟩
    have low : ∀ s4, StT (b + 100 - 2 * ((rest.length + 1 : Nat) : Int) + 1) tl s4 → (dAsg (dBin (oF addF) (dVar 2) (dBin (oF idxF) (dC (.str "abz")) (dCall sp__law_dip [] (dCons (dVar 0) (dCons (dC (.int 3)) dNil))))) (gN 2)) ⟨N, (endsOf Q).rt, dRet (dSl (dVar 2) dNoP (dP (dC (.int 40)))) (endsOf Q), N⟩ [some (.ref 1), some (.tup [.lst ws, j]), some (.str z), some d] s4 := fun s4 S4 => by
      refine ⟨_, rfl, _, rfl, _, tl, 3, rfl, S4, by omega, by decide, by decide, fun i s5 c1 c2 S5 => ?_⟩
      obtain ⟨y, hy, y1, y2, y3⟩ : ∃ y : Str, idxF s5 (.str "abz") (.int i) = some (.str y) ∧ sgnIn az y = true ∧ 1 ≤ y.length ∧ y.length ≤ 40 := by
        rcases (by omega : i = 0 ∨ i = 1 ∨ i = 2) with rfl | rfl | rfl
        · exact ⟨"a", rfl, by decide +kernel, by decide, by decide⟩
        · exact ⟨"b", rfl, by decide +kernel, by decide, by decide⟩
        · exact ⟨"z", rfl, by decide +kernel, by decide, by decide⟩
      exact ⟨_, hy, _, adds (le_line (by omega)), fin y s5 y1 y2 y3 (S5.up (by omega))⟩
    refine ⟨_, rfl, _, rfl, Nat.zero_le _, _, ne_l0, _, rfl, ifB (fun hne => ?_) fun he => ?_⟩
    · have hw1 : 1 ≤ ws.length := by
        rcases Nat.eq_zero_or_pos ws.length with h0 | h0
        · rw [List.length_eq_zero_iff.mp h0] at hne; simp at hne
        · exact h0
      refine ⟨_, rfl, _, tl, 4, rfl, S3, by omega, by decide, by decide, fun i s4 c1 c2 S4 => ⟨_, rfl, _, rfl, ?_⟩⟩
      refine ifB (fun _ => ?_) fun _ => low s4 (S4.up (by omega))
      refine ⟨_, rfl, _, rfl, _, rfl, _, rfl, _, rfl, _, rfl, _, rfl, _, tl, ws.length, rfl, S4, by omega, by omega, by omega, fun k s5 d1 d2 S5 => ?_⟩
      obtain ⟨w, hw, hwm⟩ := atI_mem (xs := ws) d1 d2
      obtain ⟨r, wr, c, kd, rfl, ok⟩ := hW w hwm
      have := ok.r3
      exact ⟨_, hw, _, rfl, _, adds (le_line (by omega)), fin r s5 ok.r1 ok.r2 ok.r3 (S5.up (by omega))⟩
    · exact low s' (S3.up (by omega))
  · rintro env s' ⟨z, e3, rfl, hz, hl, hc, S3⟩
    rw [List.length_nil] at hl hc S3
    refine ⟨trivial, _, rfl, _, rfl, _, rfl, ?_⟩
    have hlen : (cutD z.cps.toList none (some 40)).length = min 40 z.length := by
      rw [cutD_to (by decide), List.length_take]
      simp [Str.length]
    have e : (⟨(cutD z.cps.toList none (some 40)).toArray⟩ : Str) = strL (cutD z.cps.toList none (some 40)) := rfl
    rw [e]
    refine q _ _ (sgn_sub hz fun c hc => ?_) (by rw [strL_length]; omega) (by rw [strL_length]; omega) (S3.up (by omega))
    rw [cutD_to (by decide)] at hc
    exact List.mem_of_mem_take hc
end
def leP (x y : PyData) : Bool := !PySem.W.dataLt y x
theorem leP_trans {a b c : PyData} (h1 : leP a b = true) (h2 : leP b c = true) : leP a c = true := by
  unfold leP at *
  rw [Bool.not_eq_true'] at *
  cases h : PySem.W.dataLt c a with
  | false => rfl
  | true =>
    rcases PyProof.Rows.lex_negTrans (O := PyProof.Rows.itemOrd) _ (PySem.W.keyToks b) _ h with h | h
    · exact h2.symm.trans h ▸ rfl
    · exact h1.symm.trans h ▸ rfl
theorem leP_total {a b : PyData} : (leP a b || leP b a) = true := by
  unfold leP
  cases h : PySem.W.dataLt b a with
  | false => rfl
  | true =>
    cases h' : PySem.W.dataLt a b with
    | false => rfl
    | true =>
      have h2 : PySem.W.dataLt b b = true := PyProof.Rows.lex_trans (O := PyProof.Rows.itemOrd) _ _ _ h h'
      have h3 : PySem.W.dataLt b b = false := PyProof.Rows.lex_irrefl (O := PyProof.Rows.itemOrd) _
      rw [h2] at h3; cases h3
theorem leP_toks {a b : PyData} (h1 : leP a b = true) (h2 : leP b a = true) : PySem.W.keyToks a = PySem.W.keyToks b := by
  unfold leP at *
  rw [Bool.not_eq_true'] at *
  exact PyProof.Rows.lex_total (O := PyProof.Rows.itemOrd) _ _ h2 h1
theorem srtK_pair {f : D → Option D} {ds : List D} : (srtK f ds).Pairwise (fun a b => leP (keyD f a) (keyD f b) = true) :=
  List.pairwise_mergeSort (le := PySem.W.dataLe false (keyD f)) (fun a b c h1 h2 => leP_trans (a := keyD f a) (b := keyD f b) (c := keyD f c) h1 h2) (fun a b => leP_total (a := keyD f a) (b := keyD f b)) ds
theorem srtK_perm {f : D → Option D} {ds : List D} : (srtK f ds).Perm ds := List.mergeSort_perm _ _
abbrev kCW : D → Option D := kTup (kCons (kItem 2) (kCons (kItem 1) kNil))
theorem keyCW (r w : Str) (c k : Int) : keyD kCW (.tup [.str r, .str w, .int c, .int k]) = .tuple [.int c, .str w] := rfl
theorem toks_cw (c : Int) (w : Str) : PySem.W.keyToks (.tuple [.int c, .str w]) = [.inl 1, .inl c, .inl 1, .inr w.cps.toList, .inl 0] := by
  simp [PySem.W.keyToks, PySem.W.keyToksAll]
def rdIs (r : Str) : D → Bool
  | .tup (.str z :: _) => z == r
  | _ => false
theorem nodup_inj {α β : Type} {f : α → β} : ∀ {l : List α}, (l.map f).Nodup → ∀ {a b : α}, a ∈ l → b ∈ l → f a = f b → a = b
  | [], _, _, _, h, _, _ => nomatch h
  | x :: l, hn, a, b, ha, hb, e => by
    rw [List.map_cons, List.nodup_cons] at hn
    rcases List.mem_cons.mp ha with e1 | h1
    · rcases List.mem_cons.mp hb with e2 | h2
      · rw [e1, e2]
      · exact absurd (List.mem_map.mpr ⟨b, h2, by rw [← e, e1]⟩) hn.1
    · rcases List.mem_cons.mp hb with e2 | h2
      · exact absurd (List.mem_map.mpr ⟨a, h1, by rw [e, e2]⟩) hn.1
      · exact nodup_inj hn.2 h1 h2 e
abbrev kle (a b : D) : Bool := leP (keyD kCW a) (keyD kCW b)
structure Wof (ws : List D) (r : Str) (L : List D) : Prop where
  pm : L.Perm (ws.filter (rdIs r))
  so : L.Pairwise (fun a b => kle a b = true)
theorem wof_srt {ws : List D} {r : Str} : Wof ws r (srtK kCW (ws.filter (rdIs r))) := ⟨srtK_perm, srtK_pair⟩
theorem Wof.mem {ws L : List D} {r : Str} (h : Wof ws r L) {x : D} (hx : x ∈ L) : x ∈ ws ∧ rdIs r x = true := List.mem_filter.mp (h.pm.mem_iff.mp hx)
theorem Wof.len {ws L : List D} {r : Str} (h : Wof ws r L) : L.length ≤ ws.length := by rw [h.pm.length_eq]; exact List.length_filter_le ..
theorem sortOk_cw {K : Int} {ws : List D} (hW : ∀ w ∈ ws, IsW K w) (hl : ws.length ≤ 1000) (r : Str) : SortKOk kCW (ws.filter (rdIs r)) where
  fk := fun d hd => by obtain ⟨z, w, c, k, rfl, _⟩ := hW d (List.mem_filter.mp hd).1; exact ⟨_, rfl⟩
  al := fun d hd d' hd' => by
    obtain ⟨x, hx, rfl⟩ := List.mem_map.mp hd
    obtain ⟨y, hy, rfl⟩ := List.mem_map.mp hd'
    obtain ⟨z, w, c, k, rfl, _⟩ := hW x (List.mem_filter.mp hx).1
    obtain ⟨z', w', c', k', rfl, _⟩ := hW y (List.mem_filter.mp hy).1
    rw [keyCW, keyCW]
    simp [PySem.W.alike, PySem.W.alikeAll]
  so := .inl fun d hd => by
    obtain ⟨x, hx, rfl⟩ := List.mem_map.mp hd
    obtain ⟨z, w, c, k, rfl, _⟩ := hW x (List.mem_filter.mp hx).1
    exact ⟨_, _, rfl⟩
  ln := le_line (Nat.le_trans (List.length_filter_le ..) (by omega))
  dp := fun d hd => by
    obtain ⟨z, w, c, k, rfl, _⟩ := hW d (List.mem_filter.mp hd).1
    rw [keyCW]
    simp [PyData.depth, PyData.depthAll]
end Fa
namespace Fa
open PySem PySem.Spec PyProof.Rows L2 Dl Bk
open Fb (cps_len)
structure Rdg (r : Str) : Prop where
  s : sgnIn az r = true
  a : 1 ≤ r.length
  b : r.length ≤ 40
end Fa
namespace Fa
open PySem PySem.Spec PyProof.Rows L2 Dl Bk
open Fb (cps_len)
theorem lexJ_diff {x y : Int ⊕ List Nat} {r t : List (Int ⊕ List Nat)} (h : x ≠ y) : lexI (x :: r) (y :: t) = PyProof.Rows.itemLt x y := PyProof.Rows.lex_diff (O := PyProof.Rows.itemOrd) h
theorem lexJ_self {x : Int ⊕ List Nat} {r t : List (Int ⊕ List Nat)} : lexI (x :: r) (x :: t) = lexI r t := PyProof.Rows.lex_self (O := PyProof.Rows.itemOrd) x r t
theorem lexJ_irr {r : List (Int ⊕ List Nat)} : lexI r r = false := PyProof.Rows.lex_irrefl (O := PyProof.Rows.itemOrd) r
def k3 (us : List D) : D → PyData
  | .tup [.str r, .str w, .int c, .int _] => .tuple [.int (-(cnt us [.inr r, .inr w] : Nat)), .int c, .str w]
  | _ => .none
abbrev le3 (us : List D) (a b : D) : Bool := leP (k3 us a) (k3 us b)
theorem toks_3 (a c : Int) (w : Str) : PySem.W.keyToks (.tuple [.int a, .int c, .str w]) = [.inl 1, .inl a, .inl 1, .inl c, .inl 1, .inr w.cps.toList, .inl 0] := by
  simp [PySem.W.keyToks, PySem.W.keyToksAll]
theorem toks_i (a : Int) : PySem.W.keyToks (.int a) = [.inl a] := by
  simp [PySem.W.keyToks]
theorem lt_i (a b : Int) : PySem.W.dataLt (.int a) (.int b) = decide (a < b) := by
  show lexI (PySem.W.keyToks (.int a)) (PySem.W.keyToks (.int b)) = _
  rw [toks_i, toks_i]
  by_cases h : a = b
  · subst h
    rw [lexJ_irr, decide_eq_false (by omega)]
  · rw [lexJ_diff (fun z => h (Sum.inl.inj z))]; rfl
theorem lt_3 {a c a' c' : Int} {w w' : Str} : PySem.W.dataLt (.tuple [.int a, .int c, .str w]) (.tuple [.int a', .int c', .str w']) = (decide (a < a') || (decide (a = a') && PySem.W.dataLt (.tuple [.int c, .str w]) (.tuple [.int c', .str w']))) := by
  show lexI (PySem.W.keyToks (.tuple [.int a, .int c, .str w])) (PySem.W.keyToks (.tuple [.int a', .int c', .str w'])) = (_ || (_ && lexI (PySem.W.keyToks (.tuple [.int c, .str w])) (PySem.W.keyToks (.tuple [.int c', .str w']))))
  rw [toks_3, toks_3, lexJ_self, toks_cw, toks_cw]
  by_cases h : a = a'
  · subst h
    rw [lexJ_self, decide_eq_false (by omega : ¬ a < a), decide_eq_true rfl]; rfl
  · rw [lexJ_diff (fun z => h (Sum.inl.inj z)), decide_eq_false h, Bool.false_and, Bool.or_false]; rfl
structure Cof (us ws : List D) (r : Str) (O : List D) : Prop where
  pm : O.Perm (ws.filter (rdIs r))
  so : O.Pairwise (fun a b => le3 us a b = true)
theorem Cof.mem {us ws L : List D} {r : Str} (h : Cof us ws r L) {x : D} (hx : x ∈ L) : x ∈ ws ∧ rdIs r x = true := List.mem_filter.mp (h.pm.mem_iff.mp hx)
theorem Cof.len {us ws L : List D} {r : Str} (h : Cof us ws r L) : L.length ≤ ws.length := by rw [h.pm.length_eq]; exact List.length_filter_le ..
theorem le3_anti {K : Int} {us ws : List D} {r : Str} (hW : ∀ w ∈ ws, IsW K w) (hn : (ws.map pairK).Nodup) {a b : D} (ha : a ∈ ws ∧ rdIs r a = true) (hb : b ∈ ws ∧ rdIs r b = true) (h1 : le3 us a b = true) (h2 : le3 us b a = true) : a = b := by
  have ht := leP_toks h1 h2
  obtain ⟨ra, wa, ca, ka, rfl, _⟩ := hW a ha.1
  obtain ⟨rb, wb, cb, kb, rfl, _⟩ := hW b hb.1
  change PySem.W.keyToks (.tuple [.int _, .int ca, .str wa]) = PySem.W.keyToks (.tuple [.int _, .int cb, .str wb]) at ht
  rw [toks_3, toks_3] at ht
  injection ht with _ ht
  injection ht with _ ht
  injection ht with _ ht
  injection ht with e1 ht
  injection ht with _ ht
  injection ht with e2 _
  have ew := PySem.W.str_of_cps (Sum.inr.inj e2)
  have ea : ra = r := by simpa [rdIs] using ha.2
  have eb : rb = r := by simpa [rdIs] using hb.2
  refine nodup_inj hn ha.1 hb.1 ?_
  show ([.inr ra, .inr wa] : List Key) = [.inr rb, .inr wb]
  rw [ew, ea, eb]
theorem Cof.unique {K : Int} {us ws ws' L L' : List D} {r : Str} (hW : ∀ w ∈ ws, IsW K w) (hn : (ws.map pairK).Nodup) (h : Cof us ws r L) (h' : Cof us ws' r L') (p : ws.Perm ws') : L = L' := by
  have hp : L.Perm L' := h.pm.trans ((p.filter _).trans h'.pm.symm)
  exact hp.eq_of_pairwise (fun a b ha hb h1 h2 => le3_anti hW hn (h.mem ha) (h.mem (hp.mem_iff.mpr hb)) h1 h2) h.so h'.so
theorem two_in {α : Type} : ∀ {l : List α} {a b : α}, a ∈ l → b ∈ l → a ≠ b → [a, b].Sublist l ∨ [b, a].Sublist l
  | [], a, b, h, _, _ => nomatch h
  | x :: t, a, b, ha, hb, hne => by
    rcases List.mem_cons.mp ha with rfl | ha'
    · rcases List.mem_cons.mp hb with rfl | hb'
      · exact absurd rfl hne
      · exact .inl ((List.singleton_sublist.mpr hb').cons₂ _)
    · rcases List.mem_cons.mp hb with rfl | hb'
      · exact .inr ((List.singleton_sublist.mpr ha').cons₂ _)
      · rcases two_in ha' hb' hne with h | h
        · exact .inl (h.cons _)
        · exact .inr (h.cons _)
theorem two_not {α : Type} : ∀ {l : List α} {a b : α}, l.Nodup → [a, b].Sublist l → [b, a].Sublist l → False
  | [], a, b, _, h, _ => by cases h
  | x :: t, a, b, hn, h1, h2 => by
    obtain ⟨hx, ht⟩ := List.nodup_cons.mp hn
    cases h1 with
    | cons _ h1 =>
      cases h2 with
      | cons _ h2 => exact two_not ht h1 h2
      | cons_cons _ h2 => exact hx (h1.subset (by simp))
    | cons_cons _ h1 =>
      cases h2 with
      | cons _ h2 => exact hx (h2.subset (by simp))
      | cons_cons _ h2 => exact hx (List.singleton_sublist.mp h1)
theorem neg_key {us : List D} {es : List (List Key × D)} (hE : TimesOk us es) (r w : Str) (c k : Int) : kNegGet es (.tup [.str r, .str w, .int c, .int k]) = some (.int (-(cnt us [.inr r, .inr w] : Nat))) := by
  have h := hE.getD [.inr r, .inr w]
  show (match getP es [.inr r, .inr w] with | none => some (D.int 0) | some (.int n) => some (.int (-n)) | some _ => none) = _
  cases hg : getP es [.inr r, .inr w] with
  | none =>
    rw [hg] at h
    have h2 : D.int 0 = .int (cnt us [.inr r, .inr w] : Nat) := h
    injection h2 with h2
    rw [← h2]; rfl
  | some d =>
    rw [hg] at h
    have h2 : d = .int (cnt us [.inr r, .inr w] : Nat) := h
    rw [h2]
theorem neg_keyD {us : List D} {es : List (List Key × D)} (hE : TimesOk us es) (r w : Str) (c k : Int) : keyD (kNegGet es) (.tup [.str r, .str w, .int c, .int k]) = .int (-(cnt us [.inr r, .inr w] : Nat)) := by
  unfold keyD
  rw [neg_key hE]; rfl
theorem cof_srt {K : Int} {us ws L : List D} {r : Str} {es : List (List Key × D)} (hW : ∀ w ∈ ws, IsW K w) (hn : (ws.map pairK).Nodup) (hL : Wof ws r L) (hE : TimesOk us es) : Cof us ws r (srtK (kNegGet es) L) := by
  have pm : (srtK (kNegGet es) L).Perm L := srtK_perm
  have hwn : ws.Nodup := (List.pairwise_map.mp hn).imp fun h e => h (congrArg _ e)
  have hLn : L.Nodup := hL.pm.nodup_iff.mpr (hwn.filter _)
  have hOn : (srtK (kNegGet es) L).Nodup := pm.nodup_iff.mpr hLn
  refine ⟨pm.trans hL.pm, List.pairwise_iff_forall_sublist.mpr fun {a b} hab => ?_⟩
  have h2 := List.pairwise_iff_forall_sublist.mp (srtK_pair (f := kNegGet es) (ds := L)) hab
  have ha : a ∈ L := pm.mem_iff.mp (hab.subset (by simp))
  have hb : b ∈ L := pm.mem_iff.mp (hab.subset (by simp))
  have hne : a ≠ b := by
    have := hab.nodup hOn
    intro e
    subst e
    simp at this
  obtain ⟨ra, wa, ca, ka, rfl, _⟩ := hW a (hL.mem ha).1
  obtain ⟨rb, wb, cb, kb, rfl, _⟩ := hW b (hL.mem hb).1
  rw [neg_keyD hE, neg_keyD hE] at h2
  unfold leP at h2
  rw [lt_i, Bool.not_eq_true', decide_eq_false_iff_not] at h2
  show (!PySem.W.dataLt (.tuple [.int _, .int cb, .str wb]) (.tuple [.int _, .int ca, .str wa])) = true
  rw [lt_3, Bool.not_eq_true', decide_eq_false h2, Bool.false_or]
  by_cases he : -((cnt us [.inr rb, .inr wb] : Nat) : Int) = -((cnt us [.inr ra, .inr wa] : Nat) : Int)
  · rw [decide_eq_true he, Bool.true_and]
    rcases two_in ha hb hne with h | h
    · have := List.pairwise_iff_forall_sublist.mp hL.so h
      have h4 : (!PySem.W.dataLt (keyD kCW (.tup [.str rb, .str wb, .int cb, .int kb])) (keyD kCW (.tup [.str ra, .str wa, .int ca, .int ka]))) = true := this
      rw [keyCW, keyCW, Bool.not_eq_true'] at h4
      exact h4
    · refine absurd (List.sublist_mergeSort (le := PySem.W.dataLe false (keyD (kNegGet es))) (fun a b c h1 h2 => leP_trans (a := keyD (kNegGet es) a) (b := keyD (kNegGet es) b) (c := keyD (kNegGet es) c) h1 h2) (fun a b => leP_total (a := keyD (kNegGet es) a) (b := keyD (kNegGet es) b)) (List.pairwise_pair.mpr ?_) h) (fun h' => two_not hOn hab h')
      show (!PySem.W.dataLt (keyD (kNegGet es) (.tup [.str ra, .str wa, .int ca, .int ka])) (keyD (kNegGet es) (.tup [.str rb, .str wb, .int cb, .int kb]))) = true
      rw [neg_keyD hE, neg_keyD hE, lt_i, Bool.not_eq_true', decide_eq_false_iff_not]
      omega
  · rw [decide_eq_false he]; rfl
theorem sortOk_neg {K : Int} {us L : List D} {es : List (List Key × D)} (hW : ∀ w ∈ L, IsW K w) (hl : L.length ≤ 1000) (hE : TimesOk us es) : SortKOk (kNegGet es) L where
  fk := fun d hd => by obtain ⟨z, w, c, k, rfl, ok⟩ := hW d hd; exact ⟨_, neg_key hE z w c k⟩
  al := fun d hd d' hd' => by
    obtain ⟨x, hx, rfl⟩ := List.mem_map.mp hd
    obtain ⟨y, hy, rfl⟩ := List.mem_map.mp hd'
    obtain ⟨z, w, c, k, rfl, ok⟩ := hW x hx
    obtain ⟨z', w', c', k', rfl, ok'⟩ := hW y hy
    rw [neg_keyD hE, neg_keyD hE]
    simp [PySem.W.alike]
  so := .inr fun d hd => by
    obtain ⟨x, hx, rfl⟩ := List.mem_map.mp hd
    obtain ⟨z, w, c, k, rfl, ok⟩ := hW x hx
    rw [neg_keyD hE]
    exact ⟨(fun h => nomatch h), fun xs h => nomatch h⟩
  ln := le_line (by omega)
  dp := fun d hd => by
    obtain ⟨z, w, c, k, rfl, ok⟩ := hW d hd
    rw [neg_keyD hE]
    simp [PyData.depth]
def sp_words_of : SpD := fun ds s Q _ => ∃ (m : Nat) (ws rows : List D) (r : Str), ds = [.tup [.lst ws, .lst rows], .str r] ∧ BookOk m ws rows ∧ m ≤ 1000 ∧ Rdg r ∧ ∀ L, Wof ws r L → Q (.lst L) s
theorem mono_words_of : MonoSp sp_words_of := fun _ _ _ _ _ _ f _ ⟨m, ws, rows, r, h1, h2, h3, h4, h⟩ => ⟨m, ws, rows, r, h1, h2, h3, h4, fun L c => f _ _ (h L c)⟩
theorem len_words_of : ∀ ds s Q E, sp_words_of ds s Q E → ds.length = ["book", "reading"].length := fun _ _ _ _ ⟨_, _, _, _, h, _⟩ => by rw [h]; rfl
def b_words_of : SD := (dSeq (dDrop (dCall sp_need_book [] (dCons (dVar 0) dNil)))
  (dSeq (dDrop (dCall sp_need_reading [] (dCons (dVar 1) dNil)))
  (dRet (dSortK (dCons (dLc (iW (dBin (oF idxF) (dVar 0) (dC (.int 0)))) (CT.g (.one 2)) (dTest (dBin (oF eqF) (dBin (oF idxF) (dVar 2) (dC (.int 0))) (dVar 1))) (dVar 2) [2]) dNil) (kTup (kCons (kItem 2) (kCons (kItem 1) kNil)))))))
def wrD : D → D
  | .tup (_ :: w :: _) => w
  | _ => .non
def sp_candidates : SpD := fun ds s Q _ => ∃ (m : Nat) (ws rows us : List D) (r : Str), ds = [.tup [.lst ws, .lst rows], .lst us, .str r] ∧ BookOk m ws rows ∧ m ≤ 1000 ∧ us.length ≤ 60000 ∧ (∀ u ∈ us, IsU u) ∧ Rdg r ∧ ∀ O, Cof us ws r O → Q (.ref (s.length + 1)) (s ++ [none] ++ [some (.lst (O.map wrD ++ [.str r]))])
theorem mono_candidates : MonoSp sp_candidates := fun _ _ _ _ _ _ f _ ⟨m, ws, rows, us, r, h1, h2, h3, h4, h5, h6, h⟩ => ⟨m, ws, rows, us, r, h1, h2, h3, h4, h5, h6, fun L c => f _ _ (h L c)⟩
theorem len_candidates : ∀ ds s Q E, sp_candidates ds s Q E → ds.length = ["book", "uses", "reading"].length := fun _ _ _ _ ⟨_, _, _, _, _, h, _⟩ => by rw [h]; rfl
def b_candidates : SD := (dSeq (dDrop (dCall sp_need_book [] (dCons (dVar 0) dNil)))
  (dSeq (dDrop (dCall sp_need_uses [] (dCons (dVar 1) dNil)))
  (dSeq (dAsg (dCall sp_times_of [] (dCons (dVar 1) dNil)) (gN 3))
  (dSeq (dAsg (dCall sp_words_of [] (dCons (dVar 0) (dCons (dVar 2) dNil))) (gN 4))
  (dRet (dBin oAddN (dLc (iW (dSortKC 3 (dCons (dVar 4) dNil) kNegGet)) (CT.g (.one 5)) dYes (dBin (oF idxF) (dVar 5) (dC (.int 1))) [5]) (dLst (dCons (dVar 2) dNil))))))))
section
variable (ds : List D) (s : Sto) (Q : D → Sto → Prop) (E : XD)
theorem pf_words_of (h : sp_words_of ds s Q E) : b_words_of (endsOf Q) (envD ["book", "reading", "word"] ds) s := by
  obtain ⟨m, ws, rows, r, rfl, hB, hm, hr, q⟩ := h
  have hwl := hB.wl
  refine ⟨_, rfl, _, rfl, szB_mono (by decide) _ (hB.sz (by omega)), hB.isBk, ?_⟩
  refine ⟨_, rfl, r, rfl, hr.s, hr.a, hr.b, ?_⟩
  refine ⟨_, rfl, _, rfl, _, _, isW_lst, le_line (by omega), ?_⟩
  refine lcD_pure (rdIs r) id trivial (fun w hw k1 k0 h1 h0 => ?_) ?_
  · obtain ⟨z, wr, c, k, rfl, ok⟩ := hB.ww w hw
    refine ⟨_, rfl, _, rfl, _, rfl, _, eq_ss, _, rfl, ?_⟩
    exact ifB (fun ht => ⟨_, rfl, h1 ht⟩) fun ht => h0 ht
  · rw [List.map_id]
    exact ⟨_, _, rfl, rfl, sortOk_cw hB.ww (by omega) r, q _ wof_srt⟩
theorem pf_candidates (h : sp_candidates ds s Q E) : b_candidates (endsOf Q) (envD ["book", "uses", "reading", "times", "some", "word"] ds) s := by
  obtain ⟨m, ws, rows, us, r, rfl, hB, hm, hul, hU, hr, q⟩ := h
  have hwl := hB.wl
  refine ⟨_, rfl, _, rfl, szB_mono (by decide) _ (hB.sz (by omega)), hB.isBk, ?_⟩
  refine ⟨_, rfl, us, rfl, hul, hU, ?_⟩
  refine ⟨_, rfl, us, rfl, hul, hU, fun es hE => ?_⟩
  refine ⟨_, rfl, _, rfl, m, ws, rows, r, rfl, hB, hm, hr, fun L hL => ?_⟩
  have hLl := hL.len
  have hLw : ∀ w ∈ L, IsW ((rows.length : Int) - 1) w := fun w hw => hB.ww w (hL.mem hw).1
  have hC := cof_srt hB.ww hB.wd hL hE
  have hCl := hC.len
  refine ⟨_, rfl, _, _, _, es, rfl, dictD_d, rfl, rfl, sortOk_neg hLw (by omega) hE, _, _, isW_lst, le_line (by omega), ?_⟩
  refine lcD_pure (fun _ => true) wrD trivial (fun w hw k1 k0 h1 h0 => ?_) ?_
  · obtain ⟨z, wr, c, k, rfl, ok⟩ := hB.ww w (hC.mem hw).1
    exact ⟨_, rfl, _, rfl, h1 rfl⟩
  rw [List.filter_eq_self.mpr (fun _ _ => rfl)]
  have e : (s ++ [none]).length = s.length + 1 := by simp
  have := q _ hC
  rw [← e] at this
  exact ⟨_, rfl, Dl.ll, _, _, rfl, rfl, le_line (by rw [List.length_map]; show _ + 1 ≤ _; omega), this⟩
end
end Fa
namespace Pc
open PySem PySem.Spec PyProof.Rows L2 Dl Bk
open Fb (pairD cps_len)
open Fa (IsU cnt rdIs Cof le3 le3_anti wrD)
def wornW (us : List D) : D → D
  | .tup [.str r, .str w, .int c, .int k] => .tup [.str r, .str w, .int (max 0 (c - 10 * (min 9 (cnt us [.inr r, .inr w]) : Nat))), .int k]
  | x => x
def wrS : D → Str
  | .tup (_ :: .str w :: _) => w
  | _ => ""
noncomputable def candO (us ws : List D) (r : Str) : List D := (ws.filter (rdIs r)).mergeSort (le3 us)
noncomputable def candL (us ws : List D) (r : Str) : List Str := (candO us ws r).map wrS ++ [r]
theorem cof_O {us ws : List D} {r : Str} : Cof us ws r (candO us ws r) := ⟨List.mergeSort_perm _ _, List.pairwise_mergeSort (le := le3 us) (fun a b c h1 h2 => Fa.leP_trans (a := Fa.k3 us a) (b := Fa.k3 us b) (c := Fa.k3 us c) h1 h2) (fun a b => Fa.leP_total (a := Fa.k3 us a) (b := Fa.k3 us b)) _⟩
theorem cof_eq {K : Int} {us ws O : List D} {r : Str} (hW : ∀ w ∈ ws, IsW K w) (hn : (ws.map pairK).Nodup) (h : Cof us ws r O) : O = candO us ws r :=
  Fa.Cof.unique hW hn h cof_O (List.Perm.refl _)
end Pc
namespace Pc
open PySem PySem.Spec PyProof.Rows L2 Dl Bk
open Fa (sp_need_uses sp_times_of sp_words_of IsU Rdg)
def Gw (s s' : Sto) : Prop := s.length ≤ s'.length ∧ ∀ j, j < s.length → s'[j]? = s[j]?
theorem Gw.refl {s : Sto} : Gw s s := ⟨Nat.le_refl _, fun _ _ => rfl⟩
theorem Gw.app {s : Sto} (u : List (Option MO)) : Gw s (s ++ u) := ⟨by rw [List.length_append]; exact Nat.le_add_right _ _, fun j hj => List.getElem?_append_left hj⟩
theorem Gw.set {s s' : Sto} (a : Gw s s') {l : Nat} {o : Option MO} (h : s.length ≤ l) : Gw s (s'.set l o) := ⟨by rw [List.length_set]; exact a.1, fun j hj => (List.getElem?_set_ne (by omega)).trans (a.2 j hj)⟩
structure Gk (m : Nat) (ws rows us : List D) : Prop where
  b : BookOk m ws rows
  m : m ≤ 1000
  l : us.length ≤ 60000
  u : ∀ x ∈ us, IsU x
def bkD (ws rows : List D) : D := .tup [.lst ws, .lst rows]
def sp_worn : SpD := fun ds s Q _ => ∃ (m : Nat) (ws : List D) (rows : List D) (us : List D), ds = [bkD ws rows, .lst us] ∧ Gk m ws rows us ∧ ∀ s', Gw s s' → Q (bkD (ws.map (wornW us)) rows) s'
def sp_candidates : SpD := fun ds s Q _ => ∃ (m : Nat) (ws : List D) (rows : List D) (us : List D) (r : Str), ds = [bkD ws rows, .lst us, .str r] ∧ Gk m ws rows us ∧ Rdg r ∧ ∀ s', Gw s s' → Q (.lst ((candL us ws r).map .str)) s'
def b_candidates : SD := (dSeq (dDrop (dCall sp_need_book [] (dCons (dVar 0) dNil)))
  (dSeq (dDrop (dCall sp_need_uses [] (dCons (dVar 1) dNil)))
  (dSeq (dAsg (dCall sp_times_of [] (dCons (dVar 1) dNil)) (gN 3))
  (dSeq (dAsg (dCall sp_words_of [] (dCons (dVar 0) (dCons (dVar 2) dNil))) (gN 4))
  (dRet (dBin (oF addF) (dLc (iW (dSortKC 3 (dCons (dVar 4) dNil) kNegGet)) (CT.g (.one 5)) dYes (dBin (oF idxF) (dVar 5) (dC (.int 1))) [5]) (dLst (dCons (dVar 2) dNil))))))))
def b_worn : SD := (dSeq (dDrop (dCall sp_need_book [] (dCons (dVar 0) dNil)))
  (dSeq (dDrop (dCall sp_need_uses [] (dCons (dVar 1) dNil)))
  (dSeq (dAsg (dCall sp_times_of [] (dCons (dVar 1) dNil)) (gN 2))
  (dSeq (dAsg (dNew dNil) (gN 3))
  (dSeq (dFor (iW (dBin (oF idxF) (dVar 0) (dC (.int 0)))) (gTs [4, 5, 6, 7]) (dSeq (dAsg (dBin oMul (dC (.int 10)) (dCB min2F (dCons (dC (.int 9)) (dCons (dDGet2 (dVar 2) (dTup (dCons (dVar 4) (dCons (dVar 5) dNil))) (dC (.int 0))) dNil)))) (gN 8))
  (dDrop (dMt fAppend (dVar 3) (dCons (dTup (dCons (dVar 4) (dCons (dVar 5) (dCons (dCB max2F (dCons (dC (.int 0)) (dCons (dBin (oF subF) (dVar 6) (dVar 8)) dNil))) (dCons (dVar 7) dNil))))) dNil)))))
  (dRet (dTup (dCons (dFrz (dVar 3)) (dCons (dLc (iW (dBin (oF idxF) (dVar 0) (dC (.int 1)))) (CT.g (.one 9)) dYes (dCB listF (dCons (dVar 9) dNil)) [9]) dNil)))))))))
end Pc
namespace Pc
open PySem PySem.Spec PyProof.Rows L2 Dl Bk
open Fa (sp_need_uses sp_times_of sp_words_of IsU Rdg ifD ifB ifT ifF fapp cnt TimesOk Wof cof_srt sortOk_neg wrD Cof)
open Fb (cps_len)
theorem bk_sz {m : Nat} {ws rows : List D} (h : BookOk m ws rows) (hm : m ≤ 1000) : szB NN (.tup [.lst ws, .lst rows]) = true := szB_mono (by decide) _ (h.sz hm)
section
variable (ds : List D) (s : Sto) (Q : D → Sto → Prop) (E : XD)
theorem pf_worn (h : sp_worn ds s Q E) : b_worn (endsOf Q) (envD ["book", "uses", "times", "words", "reading", "writing", "cost", "kind", "less", "row"] ds) s := by
  obtain ⟨m, ws, rows, us, rfl, G, q⟩ := h
  have hwl := G.b.wl; have hm := G.m; have hrl := G.b.rl
  refine ⟨_, rfl, _, rfl, bk_sz G.b hm, G.b.isBk, ?_⟩
  refine ⟨_, rfl, us, rfl, G.l, G.u, ?_⟩
  refine ⟨_, rfl, us, rfl, G.l, G.u, fun es hT => ?_⟩
  refine ⟨Nat.zero_le _, ?_⟩
  have L1 : (s ++ [(none : Option MO)]).length = s.length + 1 := by simp
  refine ⟨_, rfl, _, rfl, _, _, isW_lst, ?_⟩
  refine forD_run (fun rest env s' => ∃ (done : List D) (e4 e5 e6 e7 e8 : Option D), ws = done ++ rest ∧ env = [some (.tup [.lst ws, .lst rows]), some (.lst us), some (DV.t es).d, some (.ref (s.length + 1)), e4, e5, e6, e7, e8, none] ∧ s' = s ++ [none, some (.lst (done.map (wornW us)))]) ?_ ?_ ?_
  · rintro d rest env s' ⟨done, e4, e5, e6, e7, e8, hw, rfl, rfl⟩ N hN
    have hmem : d ∈ ws := by rw [hw]; simp
    have hdl : done.length ≤ 1000 := by
      have h3 : ws.length = done.length + (rest.length + 1) := by rw [hw, List.length_append, List.length_cons]
      omega
    obtain ⟨r, w, c, k, rfl, ok⟩ := G.b.ww d hmem
    have g : (s ++ [none, some (MO.lst (done.map (wornW us)))])[s.length + 1]? = some (some (.lst (done.map (wornW us)))) := by simp
    refine ⟨trivial, _, rfl, rfl, ?_⟩
    refine ⟨_, rfl, by rw [dictD_d]; rfl, _, rfl, _, rfl, Dl.ll, .t es, getP es [.inr r, .inr w], dictD_d, rfl, ?_⟩
    rw [hT.getD]
    obtain ⟨n, hn⟩ : ∃ n : Nat, min 9 (cnt us [.inr r, .inr w]) = n := ⟨_, rfl⟩
    have hif : (if ((cnt us [.inr r, .inr w] : Nat) : Int) < 9 then ((cnt us [.inr r, .inr w] : Nat) : Int) else 9) = (n : Int) := by
      split <;> omega
    refine ⟨_, rfl, ?_⟩
    rw [hif]
    refine .inl ⟨_, _, rfl, rfl, mulOk_of (m := 5) (n := 5) (by decide) (by omega) (by decide), ?_⟩
    refine ⟨_, rfl, _, _, rfl, g, _, rfl, _, rfl, _, rfl, _, rfl, _, rfl, _, rfl, _, rfl, Dl.ll, _, _, _, g, fapp (Nat.lt_of_le_of_lt (by rw [List.length_map]; exact hdl) (Nat.lt_of_lt_of_le (by decide : 1000 < 100000) (le_line (by decide)))), ?_⟩
    refine hN _ _ ⟨done ++ [.tup [.str r, .str w, .int c, .int k]], _, _, _, _, _, by rw [hw, List.append_assoc]; rfl, rfl, ?_⟩
    rw [List.set_append_right _ _ (Nat.le_succ _), List.map_append]
    have e : wornW us (.tup [.str r, .str w, .int c, .int k]) = .tup [.str r, .str w, .int (if c - 10 * (n : Int) > 0 then c - 10 * (n : Int) else 0), .int k] := by
      show D.tup [.str r, .str w, .int (max 0 (c - 10 * ((min 9 (cnt us [.inr r, .inr w]) : Nat) : Int))), .int k] = _
      rw [hn, show max 0 (c - 10 * (n : Int)) = (if c - 10 * (n : Int) > 0 then c - 10 * (n : Int) else 0) by split <;> omega]
    simp [e]
  · rintro env s' ⟨done, e4, e5, e6, e7, e8, hw, rfl, rfl⟩
    rw [List.append_nil] at hw
    subst hw
    have g : (s ++ [none, some (MO.lst (ws.map (wornW us)))])[s.length + 1]? = some (some (.lst (ws.map (wornW us)))) := by simp
    refine ⟨trivial, _, rfl, _, _, rfl, g, _, rfl, _, rfl, _, _, isW_lst, le_line (by omega), ?_⟩
    refine lcD_pure (fun _ => true) id trivial (fun d hd k1 k0 h1 h0 => ?_) ?_
    · obtain ⟨js, rfl, _⟩ := G.b.rr d hd
      exact ⟨_, rfl, _, rfl, h1 rfl⟩
    rw [List.filter_eq_self.mpr (fun _ _ => rfl), List.map_id]
    refine ⟨Dl.ll, q _ ?_⟩
    exact (Gw.app _).set (Nat.le_succ _)
  · exact ⟨[], _, _, _, _, _, rfl, by rw [L1]; rfl, by simp⟩
theorem pf_candidates (h : sp_candidates ds s Q E) : b_candidates (endsOf Q) (envD ["book", "uses", "reading", "times", "some", "word"] ds) s := by
  obtain ⟨m, ws, rows, us, r, rfl, G, hr, q⟩ := h
  have hB := G.b
  have hwl := hB.wl; have hm := G.m
  refine ⟨_, rfl, _, rfl, bk_sz G.b hm, G.b.isBk, ?_⟩
  refine ⟨_, rfl, us, rfl, G.l, G.u, ?_⟩
  refine ⟨_, rfl, us, rfl, G.l, G.u, fun es hE => ?_⟩
  refine ⟨_, rfl, _, rfl, m, ws, rows, r, rfl, hB, hm, hr, fun L hL => ?_⟩
  have hLl := hL.len
  have hLw : ∀ w ∈ L, IsW ((rows.length : Int) - 1) w := fun w hw => hB.ww w (hL.mem hw).1
  have hC := cof_srt hB.ww hB.wd hL hE
  have hCl := hC.len
  refine ⟨_, rfl, _, _, _, es, rfl, dictD_d, rfl, rfl, sortOk_neg hLw (by omega) hE, _, _, isW_lst, le_line (by omega), ?_⟩
  have hO := cof_eq hB.ww hB.wd hC
  have hW : ∀ w ∈ candO us ws r, IsW ((rows.length : Int) - 1) w := fun w hw => hB.ww w ((cof_O).mem hw).1
  rw [hO] at hCl ⊢
  refine lcD_pure (fun _ => true) (fun d => .str (wrS d)) trivial (fun w hw k1 k0 h1 h0 => ?_) ?_
  · obtain ⟨z, wr, c, k, rfl, ok⟩ := hW w hw
    exact ⟨_, rfl, _, rfl, h1 rfl⟩
  rw [List.filter_eq_self.mpr (fun _ _ => rfl)]
  refine ⟨_, rfl, Dl.ll, _, addl (le_line (by rw [List.length_map]; show _ + 1 ≤ _; omega)), ?_⟩
  have e : (candO us ws r).map (fun d => D.str (wrS d)) ++ [.str r] = (candL us ws r).map .str := by
    unfold candL
    rw [List.map_append, List.map_map]; rfl
  rw [e]
  exact q _ (Gw.app _)
end
end Pc
namespace Qk24
open PySem PySem.Spec PyProof.Rows L2 Dl Bk
open Fa (IsU isPr Rdg Wof TimesOk StT ifD ifB ifT ifF two three sp_times_of sp_is_pair sp__law_dip sp__law_text sp__law_book sp__law_reading sp__law_uses sp__law_signs strL strL_length fapp StT.up StT.len StT.app IsU.pr IsU.sz)
open Fb (gd gd_all gd_tup gd_lst)
open Pc (Gk bkD candL Gw Gw.refl)
abbrev sp__law_bent : SpD := Fh.sp__law_bentN 3
def usF : D → Bool
  | .lst us => us.all isPr
  | _ => false
def rdF (x : D) : Bool := sgnF "abcdefghijklmnopqrstuvwxyz" 40 x
def sp_need_book : SpD := fun ds s Q E => ∃ x, ds = [x] ∧ szB NN x = true ∧ (isBk x = false → E "NoBook" [] s) ∧ (isBk x = true → Q .non s)
theorem mono_need_book : MonoSp sp_need_book := fun _ _ _ _ _ _ f g ⟨x, h1, h2, h3, h4⟩ => ⟨x, h1, h2, fun e => g _ _ _ (h3 e), fun e => f _ _ (h4 e)⟩
theorem len_need_book : ∀ ds s Q E, sp_need_book ds s Q E → ds.length = ["thing"].length := fun _ _ _ _ ⟨_, h, _⟩ => by rw [h]; rfl
def sp_need_uses : SpD := fun ds s Q E => ∃ x, ds = [x] ∧ szB NN x = true ∧ (usF x = false → E "NoWord" [] s) ∧ (usF x = true → Q .non s)
theorem mono_need_uses : MonoSp sp_need_uses := fun _ _ _ _ _ _ f g ⟨x, h1, h2, h3, h4⟩ => ⟨x, h1, h2, fun e => g _ _ _ (h3 e), fun e => f _ _ (h4 e)⟩
theorem len_need_uses : ∀ ds s Q E, sp_need_uses ds s Q E → ds.length = ["thing"].length := fun _ _ _ _ ⟨_, h, _⟩ => by rw [h]; rfl
def sp_need_reading : SpD := fun ds s Q E => ∃ x, ds = [x] ∧ szB NN x = true ∧ (rdF x = false → E "NoReading" [] s) ∧ (rdF x = true → Q .non s)
theorem mono_need_reading : MonoSp sp_need_reading := fun _ _ _ _ _ _ f g ⟨x, h1, h2, h3, h4⟩ => ⟨x, h1, h2, fun e => g _ _ _ (h3 e), fun e => f _ _ (h4 e)⟩
theorem len_need_reading : ∀ ds s Q E, sp_need_reading ds s Q E → ds.length = ["thing"].length := fun _ _ _ _ ⟨_, h, _⟩ => by rw [h]; rfl
structure Bkx (b : D) : Prop where
  sz : szB NN b = true
  ok : isBk b = true → ∃ ws rows, b = bkD ws rows ∧ BookOk 1000 ws rows
structure Usx (u : D) : Prop where
  sz : szB NN u = true
  ok : usF u = true → ∃ us, u = .lst us ∧ us.length ≤ 500 ∧ ∀ x ∈ us, IsU x
structure Rdx (r : D) : Prop where
  sz : szB NN r = true
  ok : rdF r = true → ∃ z, r = .str z ∧ Rdg z
def sp_words_of : SpD := fun ds s Q E => ∃ (ws rows : List D) (r : D), ds = [bkD ws rows, r] ∧ BookOk 1000 ws rows ∧ Rdx r ∧ (rdF r = false → E "NoReading" [] s) ∧ (∀ z, r = .str z → Rdg z → ∀ L, Wof ws z L → Q (.lst L) s)
theorem mono_words_of : MonoSp sp_words_of := fun _ _ _ _ _ _ f g ⟨ws, rows, r, h1, h2, h3, h4, h5⟩ => ⟨ws, rows, r, h1, h2, h3, fun e => g _ _ _ (h4 e), fun z e hz L w => f _ _ (h5 z e hz L w)⟩
theorem len_words_of : ∀ ds s Q E, sp_words_of ds s Q E → ds.length = ["book", "reading"].length := fun _ _ _ _ ⟨_, _, _, h, _⟩ => by rw [h]; rfl
def sp_counted : SpD := fun ds s Q E => ∃ u, ds = [u] ∧ Usx u ∧ (usF u = false → E "NoWord" [] s) ∧ (usF u = true → ∀ y s', Gw s s' → Q y s')
theorem mono_counted : MonoSp sp_counted := fun _ _ _ _ _ _ f g ⟨u, h1, h2, h3, h4⟩ => ⟨u, h1, h2, fun e => g _ _ _ (h3 e), fun e y s' a => f _ _ (h4 e y s' a)⟩
theorem len_counted : ∀ ds s Q E, sp_counted ds s Q E → ds.length = ["uses"].length := fun _ _ _ _ ⟨_, h, _⟩ => by rw [h]; rfl
def sp_worn : SpD := fun ds s Q E => ∃ b u, ds = [b, u] ∧ Bkx b ∧ Usx u ∧ (isBk b = false → E "NoBook" [] s) ∧ (isBk b = true → usF u = false → E "NoWord" [] s) ∧ (isBk b = true → usF u = true → ∀ y s', Gw s s' → Q y s')
theorem mono_worn : MonoSp sp_worn := fun _ _ _ _ _ _ f g ⟨b, u, h1, h2, h3, h4, h5, h6⟩ => ⟨b, u, h1, h2, h3, fun e => g _ _ _ (h4 e), fun e e2 => g _ _ _ (h5 e e2), fun e e2 y s' a => f _ _ (h6 e e2 y s' a)⟩
theorem len_worn : ∀ ds s Q E, sp_worn ds s Q E → ds.length = ["book", "uses"].length := fun _ _ _ _ ⟨_, _, h, _⟩ => by rw [h]; rfl
def sp_candidates : SpD := fun ds s Q E => ∃ b u r, ds = [b, u, r] ∧ Bkx b ∧ Usx u ∧ Rdx r ∧ (isBk b = false → E "NoBook" [] s) ∧ (isBk b = true → usF u = false → E "NoWord" [] s) ∧ (isBk b = true → usF u = true → rdF r = false → ∀ s', Gw s s' → E "NoReading" [] s') ∧ (isBk b = true → usF u = true → rdF r = true → ∀ y s', Gw s s' → Q y s')
theorem mono_candidates : MonoSp sp_candidates := fun _ _ _ _ _ _ f g ⟨b, u, r, h1, h2, h3, h4, h5, h6, h7, h8⟩ => ⟨b, u, r, h1, h2, h3, h4, fun e => g _ _ _ (h5 e), fun e e2 => g _ _ _ (h6 e e2), fun e e2 e3 s' a => g _ _ _ (h7 e e2 e3 s' a), fun e e2 e3 y s' a => f _ _ (h8 e e2 e3 y s' a)⟩
theorem len_candidates : ∀ ds s Q E, sp_candidates ds s Q E → ds.length = ["book", "uses", "reading"].length := fun _ _ _ _ ⟨_, _, _, h, _⟩ => by rw [h]; rfl
def sp__law_are_uses : SpD := tells usF
theorem mono__law_are_uses : MonoSp sp__law_are_uses := mono_tells
theorem len__law_are_uses : ∀ ds s Q E, sp__law_are_uses ds s Q E → ds.length = ["thing"].length := len_tells (p := "thing")
def dueF (way : Int) (b u r : D) : Str := if 0 < way ∧ isBk b = false then "NoBook" else if usF u = false then "NoWord" else if way = 2 ∧ rdF r = false then "NoReading" else ""
def sp__law_due : SpD := fun ds s Q _ => ∃ (way : Int) (b u r : D), ds = [.int way, b, u, r] ∧ szB NN b = true ∧ szB NN u = true ∧ szB NN r = true ∧ Q (.str (dueF way b u r)) s
theorem mono__law_due : MonoSp sp__law_due := fun _ _ _ _ _ _ f _ ⟨w, b, u, r, h1, h2, h3, h4, h⟩ => ⟨w, b, u, r, h1, h2, h3, h4, f _ _ h⟩
theorem len__law_due : ∀ ds s Q E, sp__law_due ds s Q E → ds.length = ["way", "book", "uses", "reading"].length := fun _ _ _ _ ⟨_, _, _, _, h, _⟩ => by rw [h]; rfl
def mkD (z : Str) : D := .lst (if z = "" then [] else [.str z, .str "pen", .str "value"])
def cgD (z : Str) : D := if z = "" then .non else .exc z [] []
def sp__law_marks : SpD := fun ds s Q _ => ∃ z : Str, ds = [cgD z] ∧ (z = "" ∨ z = "NoBook" ∨ z = "NoWord" ∨ z = "NoReading") ∧ Q (mkD z) s
theorem mono__law_marks : MonoSp sp__law_marks := fun _ _ _ _ _ _ f _ ⟨z, h1, h2, h⟩ => ⟨z, h1, h2, f _ _ h⟩
theorem len__law_marks : ∀ ds s Q E, sp__law_marks ds s Q E → ds.length = ["caught"].length := fun _ _ _ _ ⟨_, h, _⟩ => by rw [h]; rfl
def sp__law_asked : SpD := fun ds s Q _ => ∃ (way : Int) (b u r : D), ds = [.int way, b, u, r] ∧ 0 ≤ way ∧ way < 3 ∧ Bkx b ∧ Usx u ∧ Rdx r ∧ ∀ s', Gw s s' → Q (mkD (dueF way b u r)) s'
theorem mono__law_asked : MonoSp sp__law_asked := fun _ _ _ _ _ _ f _ ⟨w, b, u, r, h1, h2, h3, h4, h5, h6, h⟩ => ⟨w, b, u, r, h1, h2, h3, h4, h5, h6, fun s' a => f _ _ (h s' a)⟩
theorem len__law_asked : ∀ ds s Q E, sp__law_asked ds s Q E → ds.length = ["way", "book", "uses", "reading"].length := fun _ _ _ _ ⟨_, _, _, _, h, _⟩ => by rw [h]; rfl
def sp__law_right : SpD := fun ds s Q _ => ∃ (b : Int) (tl : Sto), ds = [.ref 1] ∧ StT b tl s ∧ b ≤ 50000000 ∧ ∀ tl' s', StT (b + 1100000) tl' s' → Q (.bl true) s'
theorem mono__law_right : MonoSp sp__law_right := fun _ _ _ _ _ _ f _ ⟨b, tl, h1, h2, h3, h⟩ => ⟨b, tl, h1, h2, h3, fun tl' s' a => f _ _ (h tl' s' a)⟩
theorem len__law_right : ∀ ds s Q E, sp__law_right ds s Q E → ds.length = ["pot"].length := fun _ _ _ _ ⟨_, _, h, _⟩ => by rw [h]; rfl
end Qk24
namespace Qk24
open PySem PySem.Spec PyProof.Rows L2 Dl
open Bk Fh
open Fa hiding sp__law_odd sp__law_bent_end sp__law_bentN b__law_odd b__law_bent_end b__law_bent mono__law_odd len__law_odd mono__law_bent_end len__law_bent_end mono__law_bent len__law_bent bent_lt2 bent_in bent_int pf__law_bent_end bent_out bent_seq pf__law_bent0 pf__law_bentS pf__law_odd odds_ok sp_need_uses mono_need_uses len_need_uses pf_need_uses b_need_uses sp_need_reading mono_need_reading len_need_reading pf_need_reading b_need_reading sp_words_of mono_words_of len_words_of b_words_of pf_words_of sp_candidates mono_candidates len_candidates b_candidates pf_candidates
def sxN : List Str := ["NoWord"]
def kN : List Str := ["NoBook", "NoReading", "NoWord"]
def t_NoBook : Str → Option Bool := tabZ kN [true, false, false]
def t_NoNumber : Str → Option Bool := tabZ kN [false, false, false]
def t_NoPlace : Str → Option Bool := tabZ kN [false, false, false]
def t_NoReading : Str → Option Bool := tabZ kN [false, true, false]
def t_NoRow : Str → Option Bool := tabZ kN [false, false, false]
def t_NoState : Str → Option Bool := tabZ kN [false, false, false]
def t_NoWord : Str → Option Bool := tabZ kN [false, false, true]
def t_PenError : Str → Option Bool := tabZ kN [true, true, true]
def t_Stuck : Str → Option Bool := tabZ kN [false, false, false]
def t_ValueError : Str → Option Bool := tabZ kN [true, true, true]
def hit_PenError : Str → Option Bool := tabZ kN [true, true, true]
def b__law_are_uses : SD := (dSeq (dIfS (dNot (dTest (dUn (isiF "list") (dVar 0)))) (dRet (dC (.bl false))) dNext)
  (dSeq (dFor (iW (dVar 0)) (gN 1) (dSeq (dIfS (dOr (dNot (dTest (dUn (isiF "tuple") (dVar 1)))) (dTest (dBin (oF neF) (dCB lenF (dCons (dVar 1) dNil)) (dC (.int 2))))) (dRet (dC (.bl false))) dNext)
  (dSeq (dIfS (dNot (dTest (dCall sp__law_signs [] (dCons (dBin (oF idxF) (dVar 1) (dC (.int 0))) (dCons (dC (.str "abcdefghijklmnopqrstuvwxyz")) (dCons (dC (.int 40)) dNil)))))) (dRet (dC (.bl false))) dNext)
  (dIfS (dNot (dTest (dCall sp__law_signs [] (dCons (dBin (oF idxF) (dVar 1) (dC (.int 1))) (dCons (dC (.str "ABCDEFGHIJKLMNOPQRSTUVWXYZ")) (dCons (dC (.int 12)) dNil)))))) (dRet (dC (.bl false))) dNext))))
  (dRet (dC (.bl true)))))
def b__law_due : SD := (dSeq (dIfS (dAnd (dTest (dBin (oF gtBF) (dVar 0) (dC (.int 0)))) (dNot (dTest (dCall sp_is_book [] (dCons (dVar 1) dNil))))) (dRet (dC (.str "NoBook"))) dNext)
  (dSeq (dIfS (dNot (dTest (dCall sp__law_are_uses [] (dCons (dVar 2) dNil)))) (dRet (dC (.str "NoWord"))) dNext)
  (dRet (dIf (dAnd (dTest (dBin (oF eqF) (dVar 0) (dC (.int 2)))) (dNot (dTest (dCall sp_is_reading [] (dCons (dVar 3) dNil))))) (dC (.str "NoReading")) (dC (.str ""))))))
def b_need_uses (W : WXD) : SD := (dIfS (dOr (dNot (dTest (dUn (isiF "list") (dVar 0)))) (dNot (dTest (dCB allF (dCons (dLc (iW (dVar 0)) (CT.g (.one 1)) dYes (dCall sp_is_pair [] (dCons (dVar 1) dNil)) [1]) dNil))))) (dRaise W "NoWord") dNext)
def b_counted (W : WXD) : SD := (dSeq (dDrop (dCallX W sp_need_uses [] (dCons (dVar 0) dNil)))
  (dRet (dLc (iW (dSortIt (dCall sp_times_of [] (dCons (dVar 0) dNil)))) (CT.g (.many [1, 2])) dYes (dBin (oF addF) (dVar 1) (dTup (dCons (dVar 2) dNil))) [1, 2])))
def b_need_book (W : WXD) : SD := (dIfS (dNot (dTest (dCall sp_is_book [] (dCons (dVar 0) dNil)))) (dRaise W "NoBook") dNext)
def b_worn (W : WXD) : SD := (dSeq (dDrop (dCallX W sp_need_book [] (dCons (dVar 0) dNil)))
  (dSeq (dDrop (dCallX W sp_need_uses [] (dCons (dVar 1) dNil)))
  (dSeq (dAsg (dCall sp_times_of [] (dCons (dVar 1) dNil)) (gN 2))
  (dSeq (dAsg (dNew dNil) (gN 3))
  (dSeq (dFor (iW (dBin (oF idxF) (dVar 0) (dC (.int 0)))) (gTs [4, 5, 6, 7]) (dSeq (dAsg (dBin oMul (dC (.int 10)) (dCB min2F (dCons (dC (.int 9)) (dCons (dDGet2 (dVar 2) (dTup (dCons (dVar 4) (dCons (dVar 5) dNil))) (dC (.int 0))) dNil)))) (gN 8))
  (dDrop (dMt fAppend (dVar 3) (dCons (dTup (dCons (dVar 4) (dCons (dVar 5) (dCons (dCB max2F (dCons (dC (.int 0)) (dCons (dBin (oF subF) (dVar 6) (dVar 8)) dNil))) (dCons (dVar 7) dNil))))) dNil)))))
  (dRet (dTup (dCons (dFrz (dVar 3)) (dCons (dLc (iW (dBin (oF idxF) (dVar 0) (dC (.int 1)))) (CT.g (.one 9)) dYes (dCB listF (dCons (dVar 9) dNil)) [9]) dNil)))))))))
def b_need_reading (W : WXD) : SD := (dIfS (dNot (dTest (dCall sp_is_reading [] (dCons (dVar 0) dNil)))) (dRaise W "NoReading") dNext)
def b_words_of (W : WXD) : SD := (dSeq (dDrop (dCallX W sp_need_book [] (dCons (dVar 0) dNil)))
  (dSeq (dDrop (dCallX W sp_need_reading [] (dCons (dVar 1) dNil)))
  (dRet (dSortK (dCons (dLc (iW (dBin (oF idxF) (dVar 0) (dC (.int 0)))) (CT.g (.one 2)) (dTest (dBin (oF eqF) (dBin (oF idxF) (dVar 2) (dC (.int 0))) (dVar 1))) (dVar 2) [2]) dNil) (kTup (kCons (kItem 2) (kCons (kItem 1) kNil)))))))
def b_candidates (W : WXD) : SD := (dSeq (dDrop (dCallX W sp_need_book [] (dCons (dVar 0) dNil)))
  (dSeq (dDrop (dCallX W sp_need_uses [] (dCons (dVar 1) dNil)))
  (dSeq (dAsg (dCall sp_times_of [] (dCons (dVar 1) dNil)) (gN 3))
  (dSeq (dAsg (dCallX W sp_words_of [] (dCons (dVar 0) (dCons (dVar 2) dNil))) (gN 4))
  (dRet (dBin (oF addF) (dLc (iW (dSortKC 3 (dCons (dVar 4) dNil) kNegGet)) (CT.g (.one 5)) dYes (dBin (oF idxF) (dVar 5) (dC (.int 1))) [5]) (dLst (dCons (dVar 2) dNil))))))))
def b__law_marks : SD := (dSeq (dAsg (dLst (dCons (dTup (dCons (dC (.str "NoBook")) (dCons (dUn (isoF t_NoBook) (dVar 0)) dNil))) (dCons (dTup (dCons (dC (.str "NoReading")) (dCons (dUn (isoF t_NoReading) (dVar 0)) dNil))) dNil))) (gN 1))
  (dSeq (dAsg (dBin (oF addF) (dVar 1) (dLst (dCons (dTup (dCons (dC (.str "NoPlace")) (dCons (dUn (isoF t_NoPlace) (dVar 0)) dNil))) (dCons (dTup (dCons (dC (.str "NoWord")) (dCons (dUn (isoF t_NoWord) (dVar 0)) dNil))) dNil)))) (gN 1))
  (dSeq (dAsg (dBin (oF addF) (dVar 1) (dLst (dCons (dTup (dCons (dC (.str "NoRow")) (dCons (dUn (isoF t_NoRow) (dVar 0)) dNil))) (dCons (dTup (dCons (dC (.str "Stuck")) (dCons (dUn (isoF t_Stuck) (dVar 0)) dNil))) dNil)))) (gN 1))
  (dSeq (dAsg (dBin (oF addF) (dVar 1) (dLst (dCons (dTup (dCons (dC (.str "NoNumber")) (dCons (dUn (isoF t_NoNumber) (dVar 0)) dNil))) (dCons (dTup (dCons (dC (.str "NoState")) (dCons (dUn (isoF t_NoState) (dVar 0)) dNil))) dNil)))) (gN 1))
  (dSeq (dAsg (dBin (oF addF) (dVar 1) (dLst (dCons (dTup (dCons (dC (.str "pen")) (dCons (dUn (isoF t_PenError) (dVar 0)) dNil))) (dCons (dTup (dCons (dC (.str "value")) (dCons (dUn (isoF t_ValueError) (dVar 0)) dNil))) dNil)))) (gN 1))
  (dRet (dLc (iW (dVar 1)) (CT.g (.many [2, 3])) (dTest (dVar 3)) (dVar 2) [2, 3])))))))
def b__law_asked : SD := (dSeq (dAsg (dC .non) (gN 4))
  (dSeq (dTry noW hit_PenError 5 (fun W => (dIfS (dTest (dBin (oF eqF) (dVar 0) (dC (.int 0)))) (dDrop (dCallX W sp_counted [] (dCons (dVar 2) dNil))) (dIfS (dTest (dBin (oF eqF) (dVar 0) (dC (.int 1)))) (dDrop (dCallX W sp_worn [] (dCons (dVar 1) (dCons (dVar 2) dNil)))) (dDrop (dCallX W sp_candidates [] (dCons (dVar 1) (dCons (dVar 2) (dCons (dVar 3) dNil)))))))) (dAsg (dVar 5) (gN 4)))
  (dRet (dCall sp__law_marks [] (dCons (dVar 4) dNil)))))
def b__law_right : SD := (dSeq (dAsg (dCall sp__law_book [] (dCons (dVar 0) (dCons (dC (.int 12)) dNil))) (gN 1))
  (dSeq (dAsg (dCall sp__law_reading [] (dCons (dVar 0) (dCons (dVar 1) dNil))) (gN 2))
  (dSeq (dAsg (dCall sp__law_uses [] (dCons (dVar 0) (dCons (dVar 1) (dCons (dC (.int 40)) dNil)))) (gN 3))
  (dSeq (dIfS (dTest (dBin (oF eqF) (dCall sp__law_dip [] (dCons (dVar 0) (dCons (dC (.int 4)) dNil))) (dC (.int 0)))) (dAsg (dCall sp__law_bent [] (dCons (dVar 0) (dCons (dVar 1) (dCons (dC (.int 3)) dNil)))) (gN 1)) dNext)
  (dSeq (dIfS (dTest (dBin (oF eqF) (dCall sp__law_dip [] (dCons (dVar 0) (dCons (dC (.int 2)) dNil))) (dC (.int 0)))) (dSeq (dAsg (dLst (dCons (dTup (dCons (dVar 2) (dCons (dVar 2) dNil))) (dCons (dTup (dCons (dVar 2) (dCons (dC (.str "A")) (dCons (dC (.int 1)) dNil)))) (dCons (dLst (dCons (dVar 2) (dCons (dC (.str "A")) dNil))) dNil)))) (gN 6))
  (dSeq (dAsg (dBin (oF addF) (dVar 6) (dLst (dCons (dTup (dCons (dVar 2) (dCons (dBin oMul (dC (.str "A")) (dC (.int 13))) dNil))) (dCons (dTup (dCons (dC (.str "A")) (dCons (dC (.str "A")) dNil))) (dCons (dTup (dCons (dC (.str "")) (dCons (dC (.str "A")) dNil))) dNil))))) (gN 6))
  (dAsg (dBin (oF idxF) (dLst (dCons (dBin (oF addF) (dVar 3) (dLst (dCons (dBin (oF idxF) (dVar 6) (dCall sp__law_dip [] (dCons (dVar 0) (dCons (dC (.int 6)) dNil)))) dNil))) (dCons (dCall sp__law_bent [] (dCons (dVar 0) (dCons (dVar 3) (dCons (dC (.int 2)) dNil)))) dNil))) (dCall sp__law_dip [] (dCons (dVar 0) (dCons (dC (.int 2)) dNil)))) (gN 3)))) dNext)
  (dSeq (dIfS (dTest (dBin (oF eqF) (dCall sp__law_dip [] (dCons (dVar 0) (dCons (dC (.int 4)) dNil))) (dC (.int 0)))) (dAsg (dBin (oF idxF) (dLst (dCons (dCall sp__law_bent [] (dCons (dVar 0) (dCons (dVar 2) (dCons (dC (.int 0)) dNil)))) (dCons (dBin oMul (dVar 2) (dC (.int 41))) (dCons (dC (.str "")) dNil)))) (dCall sp__law_dip [] (dCons (dVar 0) (dCons (dC (.int 3)) dNil)))) (gN 2)) dNext)
  (dSeq (dAsg (dCB reprEF (dCons (dLst (dCons (dVar 1) (dCons (dVar 3) (dCons (dVar 2) dNil)))) dNil)) (gN 4))
  (dSeq (dFor (iR1 (dCons (dC (.int 3)) dNil)) (gN 5) (dSeq (dAsg (dCall sp__law_due [] (dCons (dVar 5) (dCons (dVar 1) (dCons (dVar 3) (dCons (dVar 2) dNil))))) (gN 7))
  (dIfS (dTest (dBin (oF neF) (dCall sp__law_asked [] (dCons (dVar 5) (dCons (dVar 1) (dCons (dVar 3) (dCons (dVar 2) dNil))))) (dBin (oF idxF) (dLst (dCons (dLst (dCons (dVar 7) (dCons (dC (.str "pen")) (dCons (dC (.str "value")) dNil)))) (dCons (dLst dNil) dNil))) (dCB intF (dCons (dBin (oF eqF) (dVar 7) (dC (.str ""))) dNil))))) (dRet (dC (.bl false))) dNext)))
  (dRet (dBin (oF eqF) (dCB reprEF (dCons (dLst (dCons (dVar 1) (dCons (dVar 3) (dCons (dVar 2) dNil)))) dNil)) (dVar 4)))))))))))
def b_law : SD := (dSeq (dAsg (dCall sp__law_pot [] (dCons (dVar 0) dNil)) (gN 1))
  (dSeq (dFor (iR1 (dCons (dBin (oF addF) (dC (.int 3)) (dBin oMul (dC (.int 3)) (dCB lenF (dCons (dSl (dVar 0) dNoP (dP (dC (.int 8)))) dNil)))) dNil)) (gN 2) (dIfS (dNot (dTest (dCall sp__law_right [] (dCons (dVar 1) dNil)))) (dRet (dC (.bl false))) dNext))
  (dSeq (dAsg (dCall sp__law_text [] (dCons (dVar 1) (dCons (dC (.str "ab c")) (dCons (dC (.int 9)) dNil)))) (gN 3))
  (dRet (dBin (oF eqF) (dCB (strXF sxN) (dCons (dExcT "NoWord" (dVar 3)) dNil)) (dVar 3))))))
end Qk24
namespace Dl
open PySem PySem.Spec PyProof.Rows L2
theorem ownV_mk {K : PySem.W.Frag} {h : Heap} {mg : Str → Option Value} {x : Str} {C : Addr} (q : HX K C) (X : K.In h) (G : h.Ns mainGlobals mg) (y : PySem.W.nsIn K mainGlobals x = some (some (.ref C))) (vs : PySem.W.findIn K (.ref C) "__str__" = some (some (.builtin "BaseException.__str__"))) : ∃ C, OwnV K mg x C :=
  ⟨C, ⟨PySem.W.mg_of X G y, q.1, q.2.1, q.2.2.1, q.2.2.2⟩, y, vs⟩
abbrev DDXL (P : Program) (w : World) (K : PySem.W.Frag) (mg : Str → Option Value) (base : Heap) (N : List Str) (q : Str) (st : Stmt) (k : Nat) (b : WXD → SD) : Prop :=
  ∀ (f : Addr) (cdv : Value) (TL : LamAt K mg base q cdv) (A : Around) (outer : List PySem.Env) (s : Shared) (H : Hp) (E : XK) (B0 A0 : List Addr) (s0 : Sto), RoomG k (A.deeper (envOfC q (defScope st) s.heap.objs.size f cdv)) →
    PSsD (dxR P w K mg base N q (defScope st) f cdv A outer s H E rfl B0 A0 s0) (defBody st) (b fun y fs _ s' => PostX K mg B0 H A0 s0 E y fs s')
theorem fnDXL {P : Program} {w : World} {K : PySem.W.Frag} {mg : Str → Option Value} {base : Heap} {x qual : Str} {st : Stmt} {f : Addr} {fd : FuncData} {N ps : List Str} {k : Nat} {sp : SpD} {tb : WXD → SD} (F : Fun K x qual st f fd) (S : FnScope N ps (defScope st)) (mono : MonoSp sp)
    (len : ∀ ds s Q E, sp ds s Q E → ds.length = ps.length)
    (body : ∀ (A : Around) (outer : List PySem.Env) (s : Shared) (H : Hp) (E : XK) (B0 A0 : List Addr) (s0 : Sto), RoomG k (A.deeper (envOfC qual (defScope st) s.heap.objs.size f fd.code)) →
      PSsD (dxR P w K mg base N qual (defScope st) f fd.code A outer s H E rfl B0 A0 s0) (defBody st) (tb fun y fs _ s' => PostX K mg B0 H A0 s0 E y fs s'))
    (h : ∀ ds s Q E, sp ds s Q E → tb (fun y fs _ s' => E y fs s') (endsOf Q) (envD N ds) s) : FnD P w K mg base (L2N.CX P w) (k + 1) f fd ps sp := by
  obtain ⟨oc, od, kV, doc, pm, an, cdv, ct, osl, rfl, lk, hcd⟩ := F.ex
  refine fn_ofG lk hcd S len mono fun A outer s H vs Q E hr hs => ?_
  obtain ⟨ds, s0, A0, B, R, d, q⟩ := hs
  have b := body A outer s H E B A0 s0 hr
  refine ⟨_, b.pss, envD N ds, s0, A0, B, ⟨R, repE_start d, rfl, .refl⟩, b.mono (endsOf (PostE K B H A0 s0 Q)) _ _ _ ⟨fun e s' q σ' H' A' r x re => ?_, fun _ _ q => q, fun _ _ q => False.elim q, fun _ _ q => False.elim q⟩ (h _ _ _ _ q)⟩
  exact q V.non H' A' r x .non
theorem KnX.mkL {P : Program} {w : World} {K : PySem.W.Frag} {mg : Str → Option Value} {base : Heap} {x : Str} {st : Stmt} {N ps : List Str} {k : Nat} {sp : SpD} {tb : WXD → SD} (a : AtL K mg base x st ps) (S : FnScope N ps (defScope st)) (mono : MonoSp sp)
    (len : ∀ ds s Q E, sp ds s Q E → ds.length = ps.length) (body : DDXL P w K mg base N x st k tb)
    (h : ∀ ds s Q E, sp ds s Q E → tb (fun y fs _ s' => E y fs s') (endsOf Q) (envD N ds) s) : KnX P w K mg base x (k + 1) ps sp := by
  obtain ⟨f, fd, F, hm, hb, hl⟩ := a
  exact ⟨f, fd, fnDXL F S mono len (body f fd.code hl) h, hm, F.kp, hb⟩
end Dl
namespace Qk24
open PySem PySem.Spec PyProof.Rows L2 Dl
open Bk Fh
open Fa hiding sp__law_odd sp__law_bent_end sp__law_bentN b__law_odd b__law_bent_end b__law_bent mono__law_odd len__law_odd mono__law_bent_end len__law_bent_end mono__law_bent len__law_bent bent_lt2 bent_in bent_int pf__law_bent_end bent_out bent_seq pf__law_bent0 pf__law_bentS pf__law_odd odds_ok sp_need_uses mono_need_uses len_need_uses pf_need_uses b_need_uses sp_need_reading mono_need_reading len_need_reading pf_need_reading b_need_reading sp_words_of mono_words_of len_words_of b_words_of pf_words_of sp_candidates mono_candidates len_candidates b_candidates pf_candidates
structure Tx (K : PySem.W.Frag) (mg : Str → Option Value) : Prop where
  o_NoBook : ∃ C, OwnX K mg "NoBook" C
  o_NoReading : ∃ C, OwnX K mg "NoReading" C
  o_NoWord : ∃ C, OwnX K mg "NoWord" C
  i_NoBook : ∃ C, mg "NoBook" = some (.ref C) ∧ IsoX K (.ref C) t_NoBook
  i_NoNumber : ∃ C, mg "NoNumber" = some (.ref C) ∧ IsoX K (.ref C) t_NoNumber
  i_NoPlace : ∃ C, mg "NoPlace" = some (.ref C) ∧ IsoX K (.ref C) t_NoPlace
  i_NoReading : ∃ C, mg "NoReading" = some (.ref C) ∧ IsoX K (.ref C) t_NoReading
  i_NoRow : ∃ C, mg "NoRow" = some (.ref C) ∧ IsoX K (.ref C) t_NoRow
  i_NoState : ∃ C, mg "NoState" = some (.ref C) ∧ IsoX K (.ref C) t_NoState
  i_NoWord : ∃ C, mg "NoWord" = some (.ref C) ∧ IsoX K (.ref C) t_NoWord
  i_PenError : ∃ C, mg "PenError" = some (.ref C) ∧ IsoX K (.ref C) t_PenError
  i_Stuck : ∃ C, mg "Stuck" = some (.ref C) ∧ IsoX K (.ref C) t_Stuck
  i_ValueError : IsoX K (.type "ValueError") t_ValueError
  h_PenError : ∃ C, HitX K mg "PenError" C hit_PenError
  v_NoWord : ∃ C, OwnV K mg "NoWord" C
  sx : SXs K sxN
  n_ValueError : mg "ValueError" = none
  n_abs : mg "abs" = none
  n_all : mg "all" = none
  n_bool : mg "bool" = none
  n_int : mg "int" = none
  n_isinstance : mg "isinstance" = none
  n_len : mg "len" = none
  n_list : mg "list" = none
  n_max : mg "max" = none
  n_min : mg "min" = none
  n_range : mg "range" = none
  n_repr : mg "repr" = none
  n_sorted : mg "sorted" = none
  n_str : mg "str" = none
  n_tuple : mg "tuple" = none
  c_LARGE : ∃ t, mg "LARGE" = some (.str "ABCDEFGHIJKLMNOPQRSTUVWXYZ" t)
  c_LONGEST : ∃ t, mg "LONGEST" = some (.int 12 t)
  c_MOST : ∃ t, mg "MOST" = some (.int 40 t)
  c_SMALL : ∃ t, mg "SMALL" = some (.str "abcdefghijklmnopqrstuvwxyz" t)
  c_WEAR : ∃ t, mg "WEAR" = some (.int 10 t)
  c_WORN : ∃ t, mg "WORN" = some (.int 9 t)
variable {P : Program} {w : World} {K : PySem.W.Frag} {mg : Str → Option Value} {base : Heap} (T : Tx K mg)
abbrev N__law_pot : List Str := ["script", "great", "stir", "cell"]
theorem sc__law_pot : FnScope N__law_pot ["script"] (defScope s__law_pot) := scT
include T in
theorem d__law_pot : DD P w K mg base N__law_pot "_law_pot" s__law_pot 0 b__law_pot :=
  fun f cdv A outer s H E hr => have hu := hr.units
  (pssd_cons (psS 1 sc__law_pot.nd (pd_new pad_nil))
      (pssd_cons (psS 2 sc__law_pot.nd pd_int)
      (pssd_cons (psd_for PassesOwn.never rfl (pid_any (pd_slice (pd_var 0 (pv 0)) pod_none (pod_some pd_int))) (pgd_name (pgN 3 sc__law_pot.nd)) (pssd_one (psd_if (ptd_cmp opx_ge mono_oF (pd_var 3 (pv 3)) (pd_bin opx_pow mono_iic pd_int pd_int) (nomark _)) (pssd_one (psd_expr (pd_mt PySem.F.slot_list_append PySem.F.type_list_append mtx_append (pd_var 1 (pv 1)) (pad_cons (pd_bin opx_sub mono_oF (pd_var 3 (pv 3)) (pd_bin opx_pow mono_iic pd_int pd_int)) pad_nil)))) (pssd_one (psS 2 sc__law_pot.nd (pd_bin opx_mod mono_iic (pd_bin opx_pow mono_iic (pd_bin opx_add mono_oF (pd_bin opx_add mono_oF (pd_bin opx_add mono_oF (pd_var 2 (pv 2)) (pd_bin opx_mul (mono_oOr mono_iic mono_oF) pd_int (pdB callx_abs T.n_abs (pad_cons (pd_var 3 (pv 3)) pad_nil)))) (pd_callTy callx_int rfl T.n_int (show bootBuiltins "int" = some (.type "int") by decide +kernel) (pad_cons (pd_cmp opx_lt mono_oF (pd_var 3 (pv 3)) pd_int (nomark _)) pad_nil))) pd_int) pd_int) pd_int))))))
      (pssd_one (psd_ret (pd_new (pad_cons (pd_var 1 (pv 1)) (pad_cons (pd_var 2 (pv 2)) (pad_cons pd_int pad_nil)))))))))
variable (c__law_pot : Kn P w K mg base "_law_pot" 1 ["script"] sp__law_pot)
abbrev N__law_dip : List Str := ["pot", "many", "stirred", "found"]
theorem sc__law_dip : FnScope N__law_dip ["pot", "many"] (defScope s__law_dip) := scT
include T in
theorem d__law_dip : DD P w K mg base N__law_dip "_law_dip" s__law_dip 0 b__law_dip :=
  fun f cdv A outer s H E hr => have hu := hr.units
  (pssd_cons (psd_while PassesOwn.never (ptd_w (pwd_and (ptd_cmp (opx_ne hu) mono_oF (pdI (pd_var 0 (pv 0)) pd_int) (pd_lst pad_nil) (nomark _)) (pwd_and1 (ptd_cmp (opx_eq hu) mono_oF (pdI (pdI (pd_var 0 (pv 0)) pd_int) pd_int) pd_int (nomark _))))) (pssd_one (psd_expr (pd_mt PySem.F.slot_list_pop PySem.F.type_list_pop mtx_pop (pdI (pd_var 0 (pv 0)) pd_int) (pad_cons pd_int pad_nil)))))
      (pssd_cons (psd_if (ptd_cmp (opx_ne hu) mono_oF (pdI (pd_var 0 (pv 0)) pd_int) (pd_lst pad_nil) (nomark _)) (pssd_cons (psS 3 sc__law_dip.nd (pd_bin opx_mod mono_iic (pdI (pdI (pd_var 0 (pv 0)) pd_int) pd_int) (pd_var 1 (pv 1))))
      (pssd_cons (psd_asg (pd_bin opx_fdiv mono_iic (pdI (pdI (pd_var 0 (pv 0)) pd_int) pd_int) (pd_var 1 (pv 1))) (pgd_ix (pdI (pd_var 0 (pv 0)) pd_int) pd_int))
      (pssd_one (psd_ret (pd_var 3 (pv 3)))))) pssd_nil)
      (pssd_cons (psd_asg (pd_bin opx_add mono_oF (pdI (pd_var 0 (pv 0)) pd_int) pd_int) (pgd_ix (pd_var 0 (pv 0)) pd_int))
      (pssd_cons (psS 2 sc__law_dip.nd (pd_bin opx_add mono_oF (pd_bin opx_add mono_oF (pdI (pd_var 0 (pv 0)) pd_int) (pd_bin opx_mul (mono_oOr mono_iic mono_oF) (pdI (pd_var 0 (pv 0)) pd_int) (pdI (pd_var 0 (pv 0)) pd_int))) pd_int))
      (pssd_cons (psd_asg (pd_bin opx_mod mono_iic (pd_bin opx_pow mono_iic (pd_var 2 (pv 2)) pd_int) pd_int) (pgd_ix (pd_var 0 (pv 0)) pd_int))
      (pssd_one (psd_ret (pd_bin opx_mod mono_iic (pd_bin opx_fdiv mono_iic (pdI (pd_var 0 (pv 0)) pd_int) pd_int) (pd_var 1 (pv 1))))))))))
variable (c__law_dip : Kn P w K mg base "_law_dip" 1 ["pot", "many"] sp__law_dip)
abbrev N__law_cost : List Str := ["pot"]
theorem sc__law_cost : FnScope N__law_cost ["pot"] (defScope s__law_cost) := scT
include T c__law_dip in
theorem d__law_cost : DD P w K mg base N__law_cost "_law_cost" s__law_cost 1 b__law_cost :=
  fun f cdv A outer s H E hr => have hu := hr.units
  (pssd_one (psd_ret (pdI (pd_lst (pad_cons (pdK c__law_dip hr (pad_cons (pd_var 0 (pv 0)) (pad_cons pd_int pad_nil))) (pad_cons (pdK c__law_dip hr (pad_cons (pd_var 0 (pv 0)) (pad_cons pd_int pad_nil))) (pad_cons (pdK c__law_dip hr (pad_cons (pd_var 0 (pv 0)) (pad_cons pd_int pad_nil))) (pad_cons (pd_bin opx_sub mono_oF (pd_bin opx_sub mono_oF (pd_bin opx_pow mono_iic pd_int pd_int) pd_int) (pdK c__law_dip hr (pad_cons (pd_var 0 (pv 0)) (pad_cons pd_int pad_nil)))) pad_nil))))) (pdK c__law_dip hr (pad_cons (pd_var 0 (pv 0)) (pad_cons pd_int pad_nil))))))
variable (c__law_cost : Kn P w K mg base "_law_cost" 2 ["pot"] sp__law_cost)
abbrev N__law_text : List Str := ["pot", "signs", "most", "many", "k"]
theorem sc__law_text : FnScope N__law_text ["pot", "signs", "most"] (defScope s__law_text) := scT
include T c__law_dip in
theorem d__law_text : DD P w K mg base N__law_text "_law_text" s__law_text 1 b__law_text :=
  fun f cdv A outer s H E hr => have hu := hr.units
  (pssd_cons (psS 3 sc__law_text.nd (pd_bin opx_add mono_oF pd_int (pdK c__law_dip hr (pad_cons (pd_var 0 (pv 0)) (pad_cons (pdI (pd_lst (pad_cons (pdB (callx_min2 rfl) T.n_min (pad_cons pd_int (pad_cons (pd_var 2 (pv 2)) pad_nil))) (pad_cons (pdB (callx_min2 rfl) T.n_min (pad_cons pd_int (pad_cons (pd_var 2 (pv 2)) pad_nil))) (pad_cons (pd_var 2 (pv 2)) pad_nil)))) (pdK c__law_dip hr (pad_cons (pd_var 0 (pv 0)) (pad_cons pd_int pad_nil)))) pad_nil)))))
      (pssd_one (psd_ret (pd_join pd_str (pd_lc (own := [("k", 4)]) (.one 4) rfl sc__law_text.nd (pid_range1 rfl T.n_range (pad_cons (pd_var 3 (pv 3)) pad_nil)) (blkOk_by (N := N__law_text) (sc := defScope s__law_text) (own := [("k", 4)]) (by decide +kernel)) ⟨fun _ _ _ _ _ => (pgN 4 sc__law_text.nd), fun _ _ _ _ _ => ptsd_nil, fun _ _ _ _ _ => (pdI (pd_var 1 (pv 1)) (pdK c__law_dip hr (pad_cons (pd_var 0 (pv 0)) (pad_cons (pdB callx_len T.n_len (pad_cons (pd_var 1 (pv 1)) pad_nil)) pad_nil))))⟩ (by decide))))))
variable (c__law_text : Kn P w K mg base "_law_text" 2 ["pot", "signs", "most"] sp__law_text)
abbrev N__law_book : List Str := ["pot", "most", "small", "large", "long", "kinds", "joins", "k", "words", "pair", "j"]
theorem sc__law_book : FnScope N__law_book ["pot", "most"] (defScope s__law_book) := scT
include T c__law_dip c__law_cost c__law_text in
theorem d__law_book : DD P w K mg base N__law_book "_law_book" s__law_book 2 b__law_book :=
  fun f cdv A outer s H E hr => have hu := hr.units
  (pssd_cons (psS 2 sc__law_book.nd (pdI (pd_lst (pad_cons pd_str (pad_cons pd_str (pad_cons pd_str pad_nil)))) (pdK c__law_dip hr (pad_cons (pd_var 0 (pv 0)) (pad_cons pd_int pad_nil)))))
      (pssd_cons (psS 3 sc__law_book.nd (pdI (pd_lst (pad_cons pd_str (pad_cons pd_str pad_nil))) (pdK c__law_dip hr (pad_cons (pd_var 0 (pv 0)) (pad_cons pd_int pad_nil)))))
      (pssd_cons (psS 4 sc__law_book.nd (pdI (pd_lst (pad_cons pd_int (pad_cons pd_int (pad_cons pd_int pad_nil)))) (pdK c__law_dip hr (pad_cons (pd_var 0 (pv 0)) (pad_cons pd_int pad_nil)))))
      (pssd_cons (psS 5 sc__law_book.nd (pdI (pd_lst (pad_cons pd_int (pad_cons pd_int (pad_cons pd_int (pad_cons pd_int (pad_cons pd_int pad_nil)))))) (pdK c__law_dip hr (pad_cons (pd_var 0 (pv 0)) (pad_cons pd_int pad_nil)))))
      (pssd_cons (psS 6 sc__law_book.nd (pd_new pad_nil))
      (pssd_cons (psd_for PassesOwn.never rfl (pid_range1 rfl T.n_range (pad_cons (pd_bin opx_add mono_oF (pd_var 5 (pv 5)) pd_int) pad_nil)) (pgd_name (pgN 7 sc__law_book.nd)) (pssd_one (psd_expr (pd_mt PySem.F.slot_list_append PySem.F.type_list_append mtx_append (pd_var 6 (pv 6)) (pad_cons (pd_lc (own := [("j", 10)]) (.one 10) rfl sc__law_book.nd (pid_range1 rfl T.n_range (pad_cons (pd_bin opx_add mono_oF (pd_var 5 (pv 5)) pd_int) pad_nil)) (blkOk_by (N := N__law_book) (sc := defScope s__law_book) (own := [("j", 10)]) (by decide +kernel)) ⟨fun _ _ _ _ _ => (pgN 10 sc__law_book.nd), fun _ _ _ _ _ => ptsd_nil, fun _ _ _ _ _ => (pdK c__law_cost hr (pad_cons (pd_var 0 (pv 0)) pad_nil))⟩ (by decide)) pad_nil)))))
      (pssd_cons (psS 8 sc__law_book.nd pd_dnewT)
      (pssd_cons (psd_for PassesOwn.never rfl (pid_range1 rfl T.n_range (pad_cons (pd_bin opx_mul (mono_oOr mono_iic mono_oF) (pdK c__law_dip hr (pad_cons (pd_var 0 (pv 0)) (pad_cons (pd_bin opx_add mono_oF (pd_var 1 (pv 1)) pd_int) pad_nil))) (pd_callTy callx_int rfl T.n_int (show bootBuiltins "int" = some (.type "int") by decide +kernel) (pad_cons (pd_cmp opx_gtB mono_oF (pd_var 5 (pv 5)) pd_int (nomark _)) pad_nil))) pad_nil)) (pgd_name (pgN 7 sc__law_book.nd)) (pssd_cons (psS 9 sc__law_book.nd (pd_tup (pad_cons (pdK c__law_text hr (pad_cons (pd_var 0 (pv 0)) (pad_cons (pd_var 2 (pv 2)) (pad_cons (pd_var 4 (pv 4)) pad_nil)))) (pad_cons (pdK c__law_text hr (pad_cons (pd_var 0 (pv 0)) (pad_cons (pd_var 3 (pv 3)) (pad_cons pd_int pad_nil)))) pad_nil))))
      (pssd_one (psd_dput hu (pd_var 8 (pv 8)) (pd_var 9 (pv 9)) (pd_bin opx_add mono_oF (pd_var 9 (pv 9)) (pd_tup (pad_cons (pdK c__law_cost hr (pad_cons (pd_var 0 (pv 0)) pad_nil)) (pad_cons (pdK c__law_dip hr (pad_cons (pd_var 0 (pv 0)) (pad_cons (pd_var 5 (pv 5)) pad_nil))) pad_nil))))))))
      (pssd_one (psd_ret (pd_tup (pad_cons (pd_listV rfl rfl T.n_list (pd_var 8 (pv 8))) (pad_cons (pd_frz (pd_var 6 (pv 6))) pad_nil)))))))))))))
variable (c__law_book : Kn P w K mg base "_law_book" 3 ["pot", "most"] sp__law_book)
abbrev N__law_reading : List Str := ["pot", "book", "made", "k"]
theorem sc__law_reading : FnScope N__law_reading ["pot", "book"] (defScope s__law_reading) := scT
include T c__law_dip in
theorem d__law_reading : DD P w K mg base N__law_reading "_law_reading" s__law_reading 1 b__law_reading :=
  fun f cdv A outer s H E hr => have hu := hr.units
  (pssd_cons (psS 2 sc__law_reading.nd pd_str)
      (pssd_cons (psd_for PassesOwn.never rfl (pid_range1 rfl T.n_range (pad_cons (pd_bin opx_add mono_oF pd_int (pdK c__law_dip hr (pad_cons (pd_var 0 (pv 0)) (pad_cons (pdI (pd_lst (pad_cons pd_int (pad_cons pd_int (pad_cons pd_int pad_nil)))) (pdK c__law_dip hr (pad_cons (pd_var 0 (pv 0)) (pad_cons pd_int pad_nil)))) pad_nil)))) pad_nil)) (pgd_name (pgN 3 sc__law_reading.nd)) (pssd_one (psd_if (ptd_w (pwd_and (ptd_cmp (opx_ne hu) mono_oF (pdI (pd_var 1 (pv 1)) pd_int) (pd_lst pad_nil) (nomark _)) (pwd_and1 (ptd_cmp opx_gtB mono_oF (pdK c__law_dip hr (pad_cons (pd_var 0 (pv 0)) (pad_cons pd_int pad_nil))) pd_int (nomark _))))) (pssd_one (psS 2 sc__law_reading.nd (pd_bin opx_add mono_oF (pd_var 2 (pv 2)) (pdI (pdI (pdI (pd_var 1 (pv 1)) pd_int) (pdK c__law_dip hr (pad_cons (pd_var 0 (pv 0)) (pad_cons (pdB callx_len T.n_len (pad_cons (pdI (pd_var 1 (pv 1)) pd_int) pad_nil)) pad_nil)))) pd_int)))) (pssd_one (psS 2 sc__law_reading.nd (pd_bin opx_add mono_oF (pd_var 2 (pv 2)) (pdI pd_str (pdK c__law_dip hr (pad_cons (pd_var 0 (pv 0)) (pad_cons pd_int pad_nil))))))))))
      (pssd_one (psd_ret (pd_slice (pd_var 2 (pv 2)) pod_none (pod_some pd_int))))))
variable (c__law_reading : Kn P w K mg base "_law_reading" 2 ["pot", "book"] sp__law_reading)
abbrev N__law_uses : List Str := ["pot", "book", "most", "found", "pairs", "left", "pair", "times", "word"]
theorem sc__law_uses : FnScope N__law_uses ["pot", "book", "most"] (defScope s__law_uses) := scT
include T c__law_dip c__law_text in
theorem d__law_uses : DD P w K mg base N__law_uses "_law_uses" s__law_uses 2 b__law_uses :=
  fun f cdv A outer s H E hr => have hu := hr.units
  (pssd_cons (psS 3 sc__law_uses.nd (pd_lst pad_nil))
      (pssd_cons (psd_setLc (own := [("word", 8)]) (.one 8) (i := 4) rfl sc__law_uses.nd rfl rfl (sw_true rfl rfl rfl (by decide +kernel)) (pid_any (pdI (pd_var 1 (pv 1)) pd_int)) (blkOk_by (N := N__law_uses) (sc := defScope s__law_uses) (own := [("word", 8)]) (by decide +kernel)) ⟨fun _ _ _ _ _ => (pgN 8 sc__law_uses.nd), fun _ _ _ _ _ => ptsd_nil, fun _ _ _ _ _ => (pd_slice (pd_var 8 (pv 8)) pod_none (pod_some pd_int))⟩ (by decide))
      (pssd_cons (psd_while PassesOwn.never (ptd_w (pwd_and (ptd_cmp opx_lt mono_oF (pdB callx_len T.n_len (pad_cons (pd_var 3 (pv 3)) pad_nil)) (pd_var 2 (pv 2)) (nomark _)) (pwd_and1 (ptd_cmp opx_gtB mono_oF (pdK c__law_dip hr (pad_cons (pd_var 0 (pv 0)) (pad_cons pd_int pad_nil))) pd_int (nomark _))))) (pssd_cons (psS 6 sc__law_uses.nd (pd_tup (pad_cons (pdK c__law_text hr (pad_cons (pd_var 0 (pv 0)) (pad_cons pd_str (pad_cons pd_int pad_nil)))) (pad_cons (pdK c__law_text hr (pad_cons (pd_var 0 (pv 0)) (pad_cons pd_str (pad_cons pd_int pad_nil)))) pad_nil))))
      (pssd_cons (psd_if (ptd_w (pwd_and (ptd_cmp (opx_ne hu) mono_oF (pd_var 4 (pv 4)) (pd_lst pad_nil) (nomark _)) (pwd_and1 (ptd_cmp opx_gtB mono_oF (pdK c__law_dip hr (pad_cons (pd_var 0 (pv 0)) (pad_cons pd_int pad_nil))) pd_int (nomark _))))) (pssd_one (psS 6 sc__law_uses.nd (pdI (pd_var 4 (pv 4)) (pdK c__law_dip hr (pad_cons (pd_var 0 (pv 0)) (pad_cons (pdB callx_len T.n_len (pad_cons (pd_var 4 (pv 4)) pad_nil)) pad_nil)))))) pssd_nil)
      (pssd_cons (psS 7 sc__law_uses.nd (pdI (pd_lst (pad_cons pd_int (pad_cons pd_int (pad_cons pd_int (pad_cons pd_int (pad_cons pd_int (pad_cons (pd_bin opx_add mono_oF pd_int (pdK c__law_dip hr (pad_cons (pd_var 0 (pv 0)) (pad_cons pd_int pad_nil)))) pad_nil))))))) (pdK c__law_dip hr (pad_cons (pd_var 0 (pv 0)) (pad_cons pd_int pad_nil)))))
      (pssd_one (psS 3 sc__law_uses.nd (pd_bin opx_add mono_oF (pd_var 3 (pv 3)) (pd_bin opx_mulL mono_oF (pd_lst (pad_cons (pd_var 6 (pv 6)) pad_nil)) (pdB (callx_min2 rfl) T.n_min (pad_cons (pd_bin opx_sub mono_oF (pd_var 2 (pv 2)) (pdB callx_len T.n_len (pad_cons (pd_var 3 (pv 3)) pad_nil))) (pad_cons (pd_var 7 (pv 7)) pad_nil)))))))))))
      (pssd_cons (psS 5 sc__law_uses.nd (pd_listN rfl T.n_list (pad_cons (pd_var 3 (pv 3)) pad_nil)))
      (pssd_one (psd_ret (pd_lc (own := [("pair", 6)]) (.one 6) rfl sc__law_uses.nd (pid_any (pd_var 3 (pv 3))) (blkOk_by (N := N__law_uses) (sc := defScope s__law_uses) (own := [("pair", 6)]) (by decide +kernel)) ⟨fun _ _ _ _ _ => (pgN 6 sc__law_uses.nd), fun _ _ _ _ _ => ptsd_nil, fun _ _ _ _ _ => (pd_mt PySem.F.slot_list_pop PySem.F.type_list_pop mtx_pop (pd_var 5 (pv 5)) (pad_cons (pdK c__law_dip hr (pad_cons (pd_var 0 (pv 0)) (pad_cons (pdB callx_len T.n_len (pad_cons (pd_var 5 (pv 5)) pad_nil)) pad_nil))) pad_nil))⟩ (by decide))))))))
variable (c__law_uses : Kn P w K mg base "_law_uses" 3 ["pot", "book", "most"] sp__law_uses)
abbrev N__law_odd : List Str := ["pot", "some"]
theorem sc__law_odd : FnScope N__law_odd ["pot"] (defScope s__law_odd) := scT
include T c__law_dip in
theorem d__law_odd : DD P w K mg base N__law_odd "_law_odd" s__law_odd 1 b__law_odd :=
  fun f cdv A outer s H E hr => have hu := hr.units
  (pssd_cons (psS 1 sc__law_odd.nd (pd_lst (pad_cons pd_non (pad_cons pd_bl (pad_cons pd_bl (pad_cons pd_int (pad_cons (pd_neg pd_int) (pad_cons pd_int (pad_cons (pd_bin opx_sub mono_oF (pd_bin opx_pow mono_iic pd_int pd_int) pd_int) (pad_cons pd_str (pad_cons pd_str (pad_cons pd_str (pad_cons pd_str (pad_cons pd_str (pad_cons pd_str (pad_cons pd_str (pad_cons pd_str (pad_cons pd_str pad_nil))))))))))))))))))
      (pssd_cons (psS 1 sc__law_odd.nd (pd_bin opx_add mono_oF (pd_var 1 (pv 1)) (pd_lst (pad_cons pd_str (pad_cons (pd_tup pad_nil) (pad_cons (pd_lst pad_nil) (pad_cons pd_dk0 pad_nil)))))))
      (pssd_cons (psS 1 sc__law_odd.nd (pd_bin opx_add mono_oF (pd_var 1 (pv 1)) (pd_lst (pad_cons (pd_tup (pad_cons pd_str (pad_cons pd_str (pad_cons pd_int (pad_cons pd_int pad_nil))))) (pad_cons (pd_lst (pad_cons pd_str (pad_cons pd_str (pad_cons pd_int (pad_cons pd_int pad_nil))))) (pad_cons (pd_tup (pad_cons pd_str (pad_cons pd_str pad_nil))) (pad_cons (pd_lst (pad_cons (pd_lst (pad_cons pd_int pad_nil)) pad_nil)) (pad_cons (pd_tup (pad_cons (pd_lst pad_nil) (pad_cons (pd_lst (pad_cons (pd_lst (pad_cons pd_int pad_nil)) pad_nil)) pad_nil))) (pad_cons pd_dk1 (pad_cons (pd_lst (pad_cons pd_str pad_nil)) (pad_cons (pd_lst (pad_cons (pd_lst (pad_cons pd_str pad_nil)) pad_nil)) (pad_cons (pd_lst (pad_cons (pd_tup pad_nil) pad_nil)) pad_nil))))))))))))
      (pssd_one (psd_ret (pdI (pd_var 1 (pv 1)) (pdK c__law_dip hr (pad_cons (pd_var 0 (pv 0)) (pad_cons (pdB callx_len T.n_len (pad_cons (pd_var 1 (pv 1)) pad_nil)) pad_nil)))))))))
variable (c__law_odd : Kn P w K mg base "_law_odd" 2 ["pot"] sp__law_odd)
abbrev N__law_bent_end : List Str := ["pot", "thing", "way", "at", "inner", "more", "sign"]
theorem sc__law_bent_end : FnScope N__law_bent_end ["pot", "thing"] (defScope s__law_bent_end) := scT
include T c__law_dip c__law_odd in
theorem d__law_bent_end : DD P w K mg base N__law_bent_end "_law_bent_end" s__law_bent_end 2 b__law_bent_end :=
  fun f cdv A outer s H E hr => have hu := hr.units
  (pssd_cons (psS 2 sc__law_bent_end.nd (pdK c__law_dip hr (pad_cons (pd_var 0 (pv 0)) (pad_cons pd_int pad_nil))))
      (pssd_cons (psd_if (ptd_val (pd_isi rfl T.n_isinstance rfl T.n_int (show bootBuiltins "int" = some (.type "int") by decide +kernel) (by decide) (pd_var 1 (pv 1)))) (pssd_cons (psS 5 sc__law_bent_end.nd (pdB (callx_min2 rfl) T.n_min (pad_cons (pd_bin opx_add mono_oF (pd_var 1 (pv 1)) pd_int) (pad_cons (pd_bin opx_sub mono_oF (pd_bin opx_pow mono_iic pd_int pd_int) pd_int) pad_nil))))
      (pssd_one (psd_ret (pdI (pd_lst (pad_cons (pd_var 5 (pv 5)) (pad_cons (pd_bin opx_sub mono_oF (pd_var 1 (pv 1)) pd_int) (pad_cons (pd_bin opx_sub mono_oF (pd_neg pd_int) (pd_var 1 (pv 1))) (pad_cons (pd_cmp opx_gtB mono_oF (pd_var 1 (pv 1)) pd_int (nomark _)) (pad_cons (pd_callTy callx_str rfl T.n_str (show bootBuiltins "str" = some (.type "str") by decide +kernel) (pad_cons (pd_var 1 (pv 1)) pad_nil)) (pad_cons (pdK c__law_odd hr (pad_cons (pd_var 0 (pv 0)) pad_nil)) pad_nil))))))) (pd_var 2 (pv 2)))))) pssd_nil)
      (pssd_cons (psd_if (ptd_w (pwd_or (ptd_cmp (opx_eq hu) mono_oF (pd_var 2 (pv 2)) pd_int (nomark _)) (pwd_or1 (ptd_not (ptd_val (pd_isiT (Ts := ["str", "tuple", "list"]) rfl T.n_isinstance (by decide) (by decide) (pd_var 1 (pv 1)) (pa_tys1 rfl T.n_str (show bootBuiltins "str" = some (.type "str") by decide +kernel) (pa_tys1 rfl T.n_tuple (show bootBuiltins "tuple" = some (.type "tuple") by decide +kernel) (pa_tys1 rfl T.n_list (show bootBuiltins "list" = some (.type "list") by decide +kernel) pa_nil))) (fun _ _ _ h => h))))))) (pssd_one (psd_ret (pdK c__law_odd hr (pad_cons (pd_var 0 (pv 0)) pad_nil)))) pssd_nil)
      (pssd_cons (psS 3 sc__law_bent_end.nd (pdK c__law_dip hr (pad_cons (pd_var 0 (pv 0)) (pad_cons (pd_bin opx_add mono_oF (pdB callx_len T.n_len (pad_cons (pd_var 1 (pv 1)) pad_nil)) pd_int) pad_nil))))
      (pssd_cons (psd_if (ptd_cmp opx_lt mono_oF (pd_var 2 (pv 2)) pd_int (nomark _)) (pssd_one (psd_ret (pdI (pd_lst (pad_cons (pd_bin opx_add mono_oF (pd_slice (pd_var 1 (pv 1)) pod_none (pod_some (pd_var 3 (pv 3)))) (pd_slice (pd_var 1 (pv 1)) (pod_some (pd_bin opx_add mono_oF (pd_var 3 (pv 3)) pd_int)) pod_none)) (pad_cons (pd_bin opx_add mono_oF (pd_bin opx_add mono_oF (pd_slice (pd_var 1 (pv 1)) pod_none (pod_some (pd_var 3 (pv 3)))) (pd_slice (pd_var 1 (pv 1)) (pod_some (pd_var 3 (pv 3))) (pod_some (pd_bin opx_add mono_oF (pd_var 3 (pv 3)) pd_int)))) (pd_slice (pd_var 1 (pv 1)) (pod_some (pd_var 3 (pv 3))) pod_none)) pad_nil))) (pd_var 2 (pv 2))))) pssd_nil)
      (pssd_cons (psd_if (ptd_val (pd_isi rfl T.n_isinstance rfl T.n_str (show bootBuiltins "str" = some (.type "str") by decide +kernel) (by decide) (pd_var 1 (pv 1)))) (pssd_cons (psS 6 sc__law_bent_end.nd (pdI pd_str (pdK c__law_dip hr (pad_cons (pd_var 0 (pv 0)) (pad_cons pd_int pad_nil)))))
      (pssd_one (psd_ret (pdI (pd_lst (pad_cons (pd_bin opx_add mono_oF (pd_bin opx_add mono_oF (pd_slice (pd_var 1 (pv 1)) pod_none (pod_some (pd_var 3 (pv 3)))) (pd_var 6 (pv 6))) (pd_slice (pd_var 1 (pv 1)) (pod_some (pd_var 3 (pv 3))) pod_none)) (pad_cons (pd_bin opx_add mono_oF (pd_bin opx_add mono_oF (pd_slice (pd_var 1 (pv 1)) pod_none (pod_some (pd_var 3 (pv 3)))) (pd_var 6 (pv 6))) (pd_slice (pd_var 1 (pv 1)) (pod_some (pd_bin opx_add mono_oF (pd_var 3 (pv 3)) pd_int)) pod_none)) (pad_cons (pd_slice (pd_bin opx_add mono_oF (pd_var 1 (pv 1)) (pd_var 1 (pv 1))) pod_none (pod_some pd_int)) pad_nil)))) (pd_bin opx_sub mono_oF (pd_var 2 (pv 2)) pd_int))))) pssd_nil)
      (pssd_cons (psd_if (ptd_cmp (opx_eq hu) mono_oF (pd_var 2 (pv 2)) pd_int (nomark _)) (pssd_one (psd_ret (pd_if (ptd_val (pd_isi rfl T.n_isinstance rfl T.n_tuple (show bootBuiltins "tuple" = some (.type "tuple") by decide +kernel) (by decide) (pd_var 1 (pv 1)))) (pd_callTy callx_list rfl T.n_list (show bootBuiltins "list" = some (.type "list") by decide +kernel) (pad_cons (pd_var 1 (pv 1)) pad_nil)) (pd_callTy callx_tuple rfl T.n_tuple (show bootBuiltins "tuple" = some (.type "tuple") by decide +kernel) (pad_cons (pd_var 1 (pv 1)) pad_nil))))) pssd_nil)
      (pssd_cons (psd_if (ptd_cmp (opx_eq hu) mono_oF (pd_var 2 (pv 2)) pd_int (nomark _)) (pssd_one (psd_ret (pd_rev (pd_var 1 (pv 1))))) pssd_nil)
      (pssd_cons (psS 4 sc__law_bent_end.nd (pdK c__law_odd hr (pad_cons (pd_var 0 (pv 0)) pad_nil)))
      (pssd_one (psd_ret (pd_bin opx_add mono_oF (pd_bin opx_add mono_oF (pd_slice (pd_var 1 (pv 1)) pod_none (pod_some (pd_var 3 (pv 3)))) (pdI (pd_lst (pad_cons (pd_lst (pad_cons (pd_var 4 (pv 4)) pad_nil)) (pad_cons (pd_tup (pad_cons (pd_var 4 (pv 4)) pad_nil)) pad_nil))) (pd_callTy callx_int rfl T.n_int (show bootBuiltins "int" = some (.type "int") by decide +kernel) (pad_cons (pd_isi rfl T.n_isinstance rfl T.n_tuple (show bootBuiltins "tuple" = some (.type "tuple") by decide +kernel) (by decide) (pd_var 1 (pv 1))) pad_nil)))) (pd_slice (pd_var 1 (pv 1)) (pod_some (pd_var 3 (pv 3))) pod_none)))))))))))))
variable (c__law_bent_end : Kn P w K mg base "_law_bent_end" 3 ["pot", "thing"] sp__law_bent_end)
abbrev N__law_bent : List Str := ["pot", "thing", "deep", "at", "inner"]
theorem sc__law_bent : FnScope N__law_bent ["pot", "thing", "deep"] (defScope s__law_bent) := scT
include T c__law_dip c__law_bent_end in
theorem d__law_bent {k : Nat} (hk : 3 ≤ k) {sp__law_bent : SpD} (c__law_bent : Kn P w K mg base "_law_bent" k ["pot", "thing", "deep"] sp__law_bent) : DD P w K mg base N__law_bent "_law_bent" s__law_bent k (b__law_bent sp__law_bent) :=
  fun f cdv A outer s H E hr => have hu := hr.units
  (pssd_cons (psd_if (ptd_w (pwd_and (ptd_cmp opx_gtB mono_oF (pd_var 2 (pv 2)) pd_int (nomark _)) (pwd_and (ptd_val (pd_isiT (Ts := ["tuple", "list"]) rfl T.n_isinstance (by decide) (by decide) (pd_var 1 (pv 1)) (pa_tys1 rfl T.n_tuple (show bootBuiltins "tuple" = some (.type "tuple") by decide +kernel) (pa_tys1 rfl T.n_list (show bootBuiltins "list" = some (.type "list") by decide +kernel) pa_nil)) (fun _ _ _ h => h))) (pwd_and (ptd_cmp opx_gtB mono_oF (pdB callx_len T.n_len (pad_cons (pd_var 1 (pv 1)) pad_nil)) pd_int (nomark _)) (pwd_and1 (ptd_cmp opx_gtB mono_oF (pd_kn c__law_dip (hr.mono (Nat.le_trans (by decide) hk)) rfl (pad_cons (pd_var 0 (pv 0)) (pad_cons pd_int pad_nil))) pd_int (nomark _))))))) (pssd_cons (psS 3 sc__law_bent.nd (pd_kn c__law_dip (hr.mono (Nat.le_trans (by decide) hk)) rfl (pad_cons (pd_var 0 (pv 0)) (pad_cons (pdB callx_len T.n_len (pad_cons (pd_var 1 (pv 1)) pad_nil)) pad_nil))))
      (pssd_cons (psS 4 sc__law_bent.nd (pd_kn c__law_bent hr rfl (pad_cons (pd_var 0 (pv 0)) (pad_cons (pdI (pd_var 1 (pv 1)) (pd_var 3 (pv 3))) (pad_cons (pd_bin opx_sub mono_oF (pd_var 2 (pv 2)) pd_int) pad_nil)))))
      (pssd_one (psd_ret (pd_bin opx_add mono_oF (pd_bin opx_add mono_oF (pd_slice (pd_var 1 (pv 1)) pod_none (pod_some (pd_var 3 (pv 3)))) (pdI (pd_lst (pad_cons (pd_lst (pad_cons (pd_var 4 (pv 4)) pad_nil)) (pad_cons (pd_tup (pad_cons (pd_var 4 (pv 4)) pad_nil)) pad_nil))) (pd_callTy callx_int rfl T.n_int (show bootBuiltins "int" = some (.type "int") by decide +kernel) (pad_cons (pd_isi rfl T.n_isinstance rfl T.n_tuple (show bootBuiltins "tuple" = some (.type "tuple") by decide +kernel) (by decide) (pd_var 1 (pv 1))) pad_nil)))) (pd_slice (pd_var 1 (pv 1)) (pod_some (pd_bin opx_add mono_oF (pd_var 3 (pv 3)) pd_int)) pod_none)))))) pssd_nil)
      (pssd_one (psd_ret (pd_kn c__law_bent_end (hr.mono (Nat.le_trans (by decide) hk)) rfl (pad_cons (pd_var 0 (pv 0)) (pad_cons (pd_var 1 (pv 1)) pad_nil))))))
variable (c__law_bent : Kn P w K mg base "_law_bent" 7 ["pot", "thing", "deep"] sp__law_bent)
abbrev N_is_small : List Str := ["thing", "sign"]
theorem sc_is_small : FnScope N_is_small ["thing"] (defScope s_is_small) := scT
include T in
theorem d_is_small : DD P w K mg base N_is_small "is_small" s_is_small 0 b_is_small :=
  fun f cdv A outer s H E hr => have hu := hr.units
  (pssd_one (psd_ret (pd_and (pd_isi rfl T.n_isinstance rfl T.n_str (show bootBuiltins "str" = some (.type "str") by decide +kernel) (by decide) (pd_var 0 (pv 0))) (pd_one (pdB (callx_all rfl) T.n_all (pad_cons (pd_lc (own := [("sign", 1)]) (.one 1) rfl sc_is_small.nd (pid_any (pd_var 0 (pv 0))) (blkOk_by (N := N_is_small) (sc := defScope s_is_small) (own := [("sign", 1)]) (by decide +kernel)) ⟨fun _ _ _ _ _ => (pgN 1 sc_is_small.nd), fun _ _ _ _ _ => ptsd_nil, fun _ _ _ _ _ => (pd_cmp (opx_inA hu) (mono_oOr mono_oInS mono_oIn) (pd_var 1 (pv 1)) (pd_gstrE rfl T.c_SMALL) (by with_unfolding_all rfl))⟩ (by decide)) pad_nil))))))
variable (c_is_small : Kn P w K mg base "is_small" 1 ["thing"] sp_is_small)
abbrev N_is_reading : List Str := ["thing"]
theorem sc_is_reading : FnScope N_is_reading ["thing"] (defScope s_is_reading) := scT
include T c_is_small in
theorem d_is_reading : DD P w K mg base N_is_reading "is_reading" s_is_reading 1 b_is_reading :=
  fun f cdv A outer s H E hr => have hu := hr.units
  (pssd_one (psd_ret (pd_and (pdK c_is_small hr (pad_cons (pd_var 0 (pv 0)) pad_nil)) (pd_one (pd_chain opx_le mono_oF opx_le mono_oF pd_int (pdB callx_len T.n_len (pad_cons (pd_var 0 (pv 0)) pad_nil)) (pd_gintE rfl T.c_MOST))))))
variable (c_is_reading : Kn P w K mg base "is_reading" 2 ["thing"] sp_is_reading)
abbrev N_is_writing : List Str := ["thing", "sign"]
theorem sc_is_writing : FnScope N_is_writing ["thing"] (defScope s_is_writing) := scT
include T in
theorem d_is_writing : DD P w K mg base N_is_writing "is_writing" s_is_writing 0 b_is_writing :=
  fun f cdv A outer s H E hr => have hu := hr.units
  (pssd_one (psd_ret (pd_and (pd_isi rfl T.n_isinstance rfl T.n_str (show bootBuiltins "str" = some (.type "str") by decide +kernel) (by decide) (pd_var 0 (pv 0))) (pd_and (pd_chain opx_le mono_oF opx_le mono_oF pd_int (pdB callx_len T.n_len (pad_cons (pd_var 0 (pv 0)) pad_nil)) (pd_gintE rfl T.c_LONGEST)) (pd_one (pdB (callx_all rfl) T.n_all (pad_cons (pd_lc (own := [("sign", 1)]) (.one 1) rfl sc_is_writing.nd (pid_any (pd_var 0 (pv 0))) (blkOk_by (N := N_is_writing) (sc := defScope s_is_writing) (own := [("sign", 1)]) (by decide +kernel)) ⟨fun _ _ _ _ _ => (pgN 1 sc_is_writing.nd), fun _ _ _ _ _ => ptsd_nil, fun _ _ _ _ _ => (pd_cmp (opx_inA hu) (mono_oOr mono_oInS mono_oIn) (pd_var 1 (pv 1)) (pd_gstrE rfl T.c_LARGE) (by with_unfolding_all rfl))⟩ (by decide)) pad_nil)))))))
variable (c_is_writing : Kn P w K mg base "is_writing" 1 ["thing"] sp_is_writing)
abbrev N_is_count : List Str := ["thing"]
theorem sc_is_count : FnScope N_is_count ["thing"] (defScope s_is_count) := scT
include T in
theorem d_is_count : DD P w K mg base N_is_count "is_count" s_is_count 0 b_is_count :=
  fun f cdv A outer s H E hr => have hu := hr.units
  (pssd_one (psd_ret (pd_and (pd_isi rfl T.n_isinstance rfl T.n_int (show bootBuiltins "int" = some (.type "int") by decide +kernel) (by decide) (pd_var 0 (pv 0))) (pd_and (pd_not (pd_isi rfl T.n_isinstance rfl T.n_bool (show bootBuiltins "bool" = some (.type "bool") by decide +kernel) (by decide) (pd_var 0 (pv 0)))) (pd_one (pd_cmp opx_ge mono_oF (pd_var 0 (pv 0)) pd_int (nomark _)))))))
variable (c_is_count : Kn P w K mg base "is_count" 1 ["thing"] sp_is_count)
abbrev N_is_word : List Str := ["thing", "reading", "writing", "cost", "kind"]
theorem sc_is_word : FnScope N_is_word ["thing"] (defScope s_is_word) := scT
include T c_is_reading c_is_writing c_is_count in
theorem d_is_word : DD P w K mg base N_is_word "is_word" s_is_word 2 b_is_word :=
  fun f cdv A outer s H E hr => have hu := hr.units
  (pssd_cons (psd_if (ptd_w (pwd_or (ptd_not (ptd_val (pd_isi rfl T.n_isinstance rfl T.n_tuple (show bootBuiltins "tuple" = some (.type "tuple") by decide +kernel) (by decide) (pd_var 0 (pv 0))))) (pwd_or1 (ptd_cmp (opx_ne hu) mono_oF (pdB callx_len T.n_len (pad_cons (pd_var 0 (pv 0)) pad_nil)) pd_int (nomark _))))) (pssd_one (psd_ret pd_bl)) pssd_nil)
      (pssd_cons (psd_asg (pd_var 0 (pv 0)) (pgd_tup rfl (pgs_n1 (pgN 1 sc_is_word.nd) (pgs_n1 (pgN 2 sc_is_word.nd) (pgs_n1 (pgN 3 sc_is_word.nd) (pgs_n1 (pgN 4 sc_is_word.nd) pgs_n0))))))
      (pssd_one (psd_ret (pd_and (pdK c_is_reading hr (pad_cons (pd_var 1 (pv 1)) pad_nil)) (pd_and (pdK c_is_writing hr (pad_cons (pd_var 2 (pv 2)) pad_nil)) (pd_and (pdK c_is_count hr (pad_cons (pd_var 3 (pv 3)) pad_nil)) (pd_one (pdK c_is_count hr (pad_cons (pd_var 4 (pv 4)) pad_nil))))))))))
variable (c_is_word : Kn P w K mg base "is_word" 3 ["thing"] sp_is_word)
abbrev N_are_joins : List Str := ["thing", "row", "join"]
theorem sc_are_joins : FnScope N_are_joins ["thing"] (defScope s_are_joins) := scT
include T c_is_count in
theorem d_are_joins : DD P w K mg base N_are_joins "are_joins" s_are_joins 1 b_are_joins :=
  fun f cdv A outer s H E hr => have hu := hr.units
  (pssd_cons (psd_if (ptd_w (pwd_or (ptd_not (ptd_val (pd_isi rfl T.n_isinstance rfl T.n_list (show bootBuiltins "list" = some (.type "list") by decide +kernel) (by decide) (pd_var 0 (pv 0))))) (pwd_or1 (ptd_cmp (opx_eq hu) mono_oF (pd_var 0 (pv 0)) (pd_lst pad_nil) (nomark _))))) (pssd_one (psd_ret pd_bl)) pssd_nil)
      (pssd_cons (psd_for PassesOwn.never rfl (pid_any (pd_var 0 (pv 0))) (pgd_name (pgN 1 sc_are_joins.nd)) (pssd_one (psd_if (ptd_w (pwd_or (ptd_not (ptd_val (pd_isi rfl T.n_isinstance rfl T.n_list (show bootBuiltins "list" = some (.type "list") by decide +kernel) (by decide) (pd_var 1 (pv 1))))) (pwd_or (ptd_cmp (opx_ne hu) mono_oF (pdB callx_len T.n_len (pad_cons (pd_var 1 (pv 1)) pad_nil)) (pdB callx_len T.n_len (pad_cons (pd_var 0 (pv 0)) pad_nil)) (nomark _)) (pwd_or1 (ptd_not (ptd_val (pdB (callx_all rfl) T.n_all (pad_cons (pd_lc (own := [("join", 2)]) (.one 2) rfl sc_are_joins.nd (pid_any (pd_var 1 (pv 1))) (blkOk_by (N := N_are_joins) (sc := defScope s_are_joins) (own := [("join", 2)]) (by decide +kernel)) ⟨fun _ _ _ _ _ => (pgN 2 sc_are_joins.nd), fun _ _ _ _ _ => ptsd_nil, fun _ _ _ _ _ => (pdK c_is_count hr (pad_cons (pd_var 2 (pv 2)) pad_nil))⟩ (by decide)) pad_nil)))))))) (pssd_one (psd_ret pd_bl)) pssd_nil)))
      (pssd_one (psd_ret pd_bl))))
variable (c_are_joins : Kn P w K mg base "are_joins" 2 ["thing"] sp_are_joins)
abbrev N_is_book : List Str := ["thing", "words", "joins", "word"]
theorem sc_is_book : FnScope N_is_book ["thing"] (defScope s_is_book) := scT
include T c_is_word c_are_joins in
theorem d_is_book : DD P w K mg base N_is_book "is_book" s_is_book 3 b_is_book :=
  fun f cdv A outer s H E hr => have hu := hr.units
  (pssd_cons (psd_if (ptd_w (pwd_or (ptd_not (ptd_val (pd_isi rfl T.n_isinstance rfl T.n_tuple (show bootBuiltins "tuple" = some (.type "tuple") by decide +kernel) (by decide) (pd_var 0 (pv 0))))) (pwd_or1 (ptd_cmp (opx_ne hu) mono_oF (pdB callx_len T.n_len (pad_cons (pd_var 0 (pv 0)) pad_nil)) pd_int (nomark _))))) (pssd_one (psd_ret pd_bl)) pssd_nil)
      (pssd_cons (psd_asg (pd_var 0 (pv 0)) (pgd_tup rfl (pgs_n1 (pgN 1 sc_is_book.nd) (pgs_n1 (pgN 2 sc_is_book.nd) pgs_n0))))
      (pssd_cons (psd_if (ptd_w (pwd_or (ptd_not (ptd_val (pd_isi rfl T.n_isinstance rfl T.n_list (show bootBuiltins "list" = some (.type "list") by decide +kernel) (by decide) (pd_var 1 (pv 1))))) (pwd_or (ptd_not (ptd_val (pdB (callx_all rfl) T.n_all (pad_cons (pd_lc (own := [("word", 3)]) (.one 3) rfl sc_is_book.nd (pid_any (pd_var 1 (pv 1))) (blkOk_by (N := N_is_book) (sc := defScope s_is_book) (own := [("word", 3)]) (by decide +kernel)) ⟨fun _ _ _ _ _ => (pgN 3 sc_is_book.nd), fun _ _ _ _ _ => ptsd_nil, fun _ _ _ _ _ => (pdK c_is_word hr (pad_cons (pd_var 3 (pv 3)) pad_nil))⟩ (by decide)) pad_nil)))) (pwd_or1 (ptd_not (ptd_val (pdK c_are_joins hr (pad_cons (pd_var 2 (pv 2)) pad_nil)))))))) (pssd_one (psd_ret pd_bl)) pssd_nil)
      (pssd_cons (psd_if (ptd_not (ptd_val (pdB (callx_all rfl) T.n_all (pad_cons (pd_lc (own := [("word", 3)]) (.one 3) rfl sc_is_book.nd (pid_any (pd_var 1 (pv 1))) (blkOk_by (N := N_is_book) (sc := defScope s_is_book) (own := [("word", 3)]) (by decide +kernel)) ⟨fun _ _ _ _ _ => (pgN 3 sc_is_book.nd), fun _ _ _ _ _ => ptsd_nil, fun _ _ _ _ _ => (pd_cmp opx_lt mono_oF (pdI (pd_var 3 (pv 3)) pd_int) (pd_bin opx_sub mono_oF (pdB callx_len T.n_len (pad_cons (pd_var 2 (pv 2)) pad_nil)) pd_int) (nomark _))⟩ (by decide)) pad_nil)))) (pssd_one (psd_ret pd_bl)) pssd_nil)
      (pssd_one (psd_ret (pd_cmp (opx_eq hu) mono_oF (pdB callx_len T.n_len (pad_cons (pd_dc (own := [("word", 3)]) (.one 3) rfl hu sc_is_book.nd (pid_any (pd_var 1 (pv 1))) (blkOk_by (N := N_is_book) (sc := defScope s_is_book) (own := [("word", 3)]) (by decide +kernel)) ⟨fun _ _ _ _ _ => (pgN 3 sc_is_book.nd), fun _ _ _ _ _ => ptsd_nil, fun _ _ _ _ _ => (pd_slice (pd_var 3 (pv 3)) pod_none (pod_some pd_int)), fun _ _ _ _ _ => pd_bl⟩ (by decide)) pad_nil)) (pdB callx_len T.n_len (pad_cons (pd_var 1 (pv 1)) pad_nil)) (nomark _))))))))
variable (c_is_book : Kn P w K mg base "is_book" 4 ["thing"] sp_is_book)
abbrev N__law_signs : List Str := ["thing", "signs", "most", "sign"]
theorem sc__law_signs : FnScope N__law_signs ["thing", "signs", "most"] (defScope s__law_signs) := scT
include T in
theorem d__law_signs : DD P w K mg base N__law_signs "_law_signs" s__law_signs 0 b__law_signs :=
  fun f cdv A outer s H E hr => have hu := hr.units
  (pssd_cons (psd_if (ptd_w (pwd_or (ptd_not (ptd_val (pd_isi rfl T.n_isinstance rfl T.n_str (show bootBuiltins "str" = some (.type "str") by decide +kernel) (by decide) (pd_var 0 (pv 0))))) (pwd_or (ptd_cmp (opx_eq hu) mono_oF (pd_var 0 (pv 0)) pd_str (nomark _)) (pwd_or1 (ptd_cmp opx_gtB mono_oF (pdB callx_len T.n_len (pad_cons (pd_var 0 (pv 0)) pad_nil)) (pd_var 2 (pv 2)) (nomark _)))))) (pssd_one (psd_ret pd_bl)) pssd_nil)
      (pssd_one (psd_ret (pd_cmp (opx_eq hu) mono_oF (pd_lc (own := [("sign", 3)]) (.one 3) rfl sc__law_signs.nd (pid_any (pd_var 0 (pv 0))) (blkOk_by (N := N__law_signs) (sc := defScope s__law_signs) (own := [("sign", 3)]) (by decide +kernel)) ⟨fun _ _ _ _ _ => (pgN 3 sc__law_signs.nd), fun _ _ _ _ _ => (ptsd_one (ptd_cmp (opx_notInA hu) (mono_oOr mono_oInS mono_oIn) (pd_var 3 (pv 3)) (pd_var 1 (pv 1)) (by with_unfolding_all rfl))), fun _ _ _ _ _ => (pd_var 3 (pv 3))⟩ (by decide)) (pd_lst pad_nil) (nomark _)))))
variable (c__law_signs : Kn P w K mg base "_law_signs" 1 ["thing", "signs", "most"] sp__law_signs)
abbrev N__law_are_uses : List Str := ["thing", "pair"]
theorem sc__law_are_uses : FnScope N__law_are_uses ["thing"] (defScope s__law_are_uses) := scT
include T c__law_signs in
theorem d__law_are_uses : DD P w K mg base N__law_are_uses "_law_are_uses" s__law_are_uses 1 b__law_are_uses :=
  fun f cdv A outer s H E hr => have hu := hr.units
  (pssd_cons (psd_if (ptd_not (ptd_val (pd_isi rfl T.n_isinstance rfl T.n_list (show bootBuiltins "list" = some (.type "list") by decide +kernel) (by decide) (pd_var 0 (pv 0))))) (pssd_one (psd_ret pd_bl)) pssd_nil)
      (pssd_cons (psd_for PassesOwn.never rfl (pid_any (pd_var 0 (pv 0))) (pgd_name (pgN 1 sc__law_are_uses.nd)) (pssd_cons (psd_if (ptd_w (pwd_or (ptd_not (ptd_val (pd_isi rfl T.n_isinstance rfl T.n_tuple (show bootBuiltins "tuple" = some (.type "tuple") by decide +kernel) (by decide) (pd_var 1 (pv 1))))) (pwd_or1 (ptd_cmp (opx_ne hu) mono_oF (pdB callx_len T.n_len (pad_cons (pd_var 1 (pv 1)) pad_nil)) pd_int (nomark _))))) (pssd_one (psd_ret pd_bl)) pssd_nil)
      (pssd_cons (psd_if (ptd_not (ptd_val (pdK c__law_signs hr (pad_cons (pdI (pd_var 1 (pv 1)) pd_int) (pad_cons pd_str (pad_cons pd_int pad_nil)))))) (pssd_one (psd_ret pd_bl)) pssd_nil)
      (pssd_one (psd_if (ptd_not (ptd_val (pdK c__law_signs hr (pad_cons (pdI (pd_var 1 (pv 1)) pd_int) (pad_cons pd_str (pad_cons pd_int pad_nil)))))) (pssd_one (psd_ret pd_bl)) pssd_nil)))))
      (pssd_one (psd_ret pd_bl))))
variable (c__law_are_uses : Kn P w K mg base "_law_are_uses" 2 ["thing"] sp__law_are_uses)
abbrev N__law_due : List Str := ["way", "book", "uses", "reading"]
theorem sc__law_due : FnScope N__law_due ["way", "book", "uses", "reading"] (defScope s__law_due) := scT
include T c_is_reading c_is_book c__law_are_uses in
theorem d__law_due : DD P w K mg base N__law_due "_law_due" s__law_due 4 b__law_due :=
  fun f cdv A outer s H E hr => have hu := hr.units
  (pssd_cons (psd_if (ptd_w (pwd_and (ptd_cmp opx_gtB mono_oF (pd_var 0 (pv 0)) pd_int (nomark _)) (pwd_and1 (ptd_not (ptd_val (pdK c_is_book hr (pad_cons (pd_var 1 (pv 1)) pad_nil))))))) (pssd_one (psd_ret pd_str)) pssd_nil)
      (pssd_cons (psd_if (ptd_not (ptd_val (pdK c__law_are_uses hr (pad_cons (pd_var 2 (pv 2)) pad_nil)))) (pssd_one (psd_ret pd_str)) pssd_nil)
      (pssd_one (psd_ret (pd_if (ptd_w (pwd_and (ptd_cmp (opx_eq hu) mono_oF (pd_var 0 (pv 0)) pd_int (nomark _)) (pwd_and1 (ptd_not (ptd_val (pdK c_is_reading hr (pad_cons (pd_var 3 (pv 3)) pad_nil))))))) pd_str pd_str)))))
variable (c__law_due : Kn P w K mg base "_law_due" 5 ["way", "book", "uses", "reading"] sp__law_due)
abbrev N_is_pair : List Str := ["thing"]
theorem sc_is_pair : FnScope N_is_pair ["thing"] (defScope s_is_pair) := scT
include T c_is_reading c_is_writing in
theorem d_is_pair : DD P w K mg base N_is_pair "is_pair" s_is_pair 2 b_is_pair :=
  fun f cdv A outer s H E hr => have hu := hr.units
  (pssd_one (psd_ret (pd_and (pd_isi rfl T.n_isinstance rfl T.n_tuple (show bootBuiltins "tuple" = some (.type "tuple") by decide +kernel) (by decide) (pd_var 0 (pv 0))) (pd_and (pd_cmp (opx_eq hu) mono_oF (pdB callx_len T.n_len (pad_cons (pd_var 0 (pv 0)) pad_nil)) pd_int (nomark _)) (pd_and (pdK c_is_reading hr (pad_cons (pdI (pd_var 0 (pv 0)) pd_int) pad_nil)) (pd_one (pdK c_is_writing hr (pad_cons (pdI (pd_var 0 (pv 0)) pd_int) pad_nil))))))))
variable (c_is_pair : Kn P w K mg base "is_pair" 3 ["thing"] sp_is_pair)
abbrev N_need_uses : List Str := ["thing", "pair"]
theorem sc_need_uses : FnScope N_need_uses ["thing"] (defScope s_need_uses) := scT
include T c_is_pair in
theorem d_need_uses : DDX P w K mg base N_need_uses "need_uses" s_need_uses 3 b_need_uses :=
  fun f cdv A outer s H E B0 A0 s0 hr => have hu := hr.units
  (pssd_one (psd_if (ptd_w (pwd_or (ptd_not (ptd_val (pd_isi rfl T.n_isinstance rfl T.n_list (show bootBuiltins "list" = some (.type "list") by decide +kernel) (by decide) (pd_var 0 (pv 0))))) (pwd_or1 (ptd_not (ptd_val (pdB (callx_all rfl) T.n_all (pad_cons (pd_lc (own := [("pair", 1)]) (.one 1) rfl sc_need_uses.nd (pid_any (pd_var 0 (pv 0))) (blkOk_by (N := N_need_uses) (sc := defScope s_need_uses) (own := [("pair", 1)]) (by decide +kernel)) ⟨fun _ _ _ _ _ => (pgN 1 sc_need_uses.nd), fun _ _ _ _ _ => ptsd_nil, fun _ _ _ _ _ => (pdK c_is_pair hr (pad_cons (pd_var 1 (pv 1)) pad_nil))⟩ (by decide)) pad_nil))))))) (pssd_one (psd_raise rfl T.o_NoWord.choose_spec rfl)) pssd_nil))
variable (c_need_uses : KnX P w K mg base "need_uses" 4 ["thing"] sp_need_uses)
abbrev N_times_of : List Str := ["uses", "found", "pair"]
theorem sc_times_of : FnScope N_times_of ["uses"] (defScope s_times_of) := scT
include T in
theorem d_times_of : DD P w K mg base N_times_of "times_of" s_times_of 0 b_times_of :=
  fun f cdv A outer s H E hr => have hu := hr.units
  (pssd_cons (psS 1 sc_times_of.nd pd_dnewT)
      (pssd_cons (psd_for PassesOwn.never rfl (pid_any (pd_var 0 (pv 0))) (pgd_name (pgN 2 sc_times_of.nd)) (pssd_one (psd_dput hu (pd_var 1 (pv 1)) (pd_var 2 (pv 2)) (pd_bin opx_add mono_oF (pd_dget2 hu (pd_var 1 (pv 1)) (pd_var 2 (pv 2)) pd_int ⟨rfl, rfl, rfl, rfl⟩) pd_int))))
      (pssd_one (psd_ret (pd_frzD (pd_var 1 (pv 1)))))))
variable (c_times_of : Kn P w K mg base "times_of" 1 ["uses"] sp_times_of)
abbrev N_counted : List Str := ["uses", "pair", "times"]
theorem sc_counted : FnScope N_counted ["uses"] (defScope s_counted) := scT
include T c_need_uses c_times_of in
theorem d_counted : DDX P w K mg base N_counted "counted" s_counted 4 b_counted :=
  fun f cdv A outer s H E B0 A0 s0 hr => have hu := hr.units
  (pssd_cons (psd_expr (pdKX c_need_uses hr (pad_cons (pd_var 0 (pv 0)) pad_nil)))
      (pssd_one (psd_ret (pd_lc (own := [("pair", 1), ("times", 2)]) (.many [1, 2]) rfl sc_counted.nd (pid_any (pd_sortIt rfl hu rfl T.n_sorted (pdK c_times_of hr (pad_cons (pd_var 0 (pv 0)) pad_nil)))) (blkOk_by (N := N_counted) (sc := defScope s_counted) (own := [("pair", 1), ("times", 2)]) (by decide +kernel)) ⟨fun _ _ _ _ _ => (pg_tup rfl (pgs_n1 (pgN 1 sc_counted.nd) (pgs_n1 (pgN 2 sc_counted.nd) pgs_n0))), fun _ _ _ _ _ => ptsd_nil, fun _ _ _ _ _ => (pd_bin opx_add mono_oF (pd_var 1 (pv 1)) (pd_tup (pad_cons (pd_var 2 (pv 2)) pad_nil)))⟩ (by decide)))))
variable (c_counted : KnX P w K mg base "counted" 5 ["uses"] sp_counted)
abbrev N_need_book : List Str := ["thing"]
theorem sc_need_book : FnScope N_need_book ["thing"] (defScope s_need_book) := scT
include T c_is_book in
theorem d_need_book : DDX P w K mg base N_need_book "need_book" s_need_book 4 b_need_book :=
  fun f cdv A outer s H E B0 A0 s0 hr => have hu := hr.units
  (pssd_one (psd_if (ptd_not (ptd_val (pdK c_is_book hr (pad_cons (pd_var 0 (pv 0)) pad_nil)))) (pssd_one (psd_raise rfl T.o_NoBook.choose_spec rfl)) pssd_nil))
variable (c_need_book : KnX P w K mg base "need_book" 5 ["thing"] sp_need_book)
abbrev N_worn : List Str := ["book", "uses", "times", "words", "reading", "writing", "cost", "kind", "less", "row"]
theorem sc_worn : FnScope N_worn ["book", "uses"] (defScope s_worn) := scT
include T c_need_uses c_times_of c_need_book in
theorem d_worn : DDX P w K mg base N_worn "worn" s_worn 5 b_worn :=
  fun f cdv A outer s H E B0 A0 s0 hr => have hu := hr.units
  (pssd_cons (psd_expr (pdKX c_need_book hr (pad_cons (pd_var 0 (pv 0)) pad_nil)))
      (pssd_cons (psd_expr (pdKX c_need_uses hr (pad_cons (pd_var 1 (pv 1)) pad_nil)))
      (pssd_cons (psS 2 sc_worn.nd (pdK c_times_of hr (pad_cons (pd_var 1 (pv 1)) pad_nil)))
      (pssd_cons (psS 3 sc_worn.nd (pd_new pad_nil))
      (pssd_cons (psd_for (passes_of rfl) rfl (pid_any (pdI (pd_var 0 (pv 0)) pd_int)) (pgd_tup rfl (pgs_n1 (pgN 4 sc_worn.nd) (pgs_n1 (pgN 5 sc_worn.nd) (pgs_n1 (pgN 6 sc_worn.nd) (pgs_n1 (pgN 7 sc_worn.nd) pgs_n0))))) (pssd_cons (psS 8 sc_worn.nd (pd_bin opx_mul (mono_oOr mono_iic mono_oF) (pd_gintE rfl T.c_WEAR) (pdB (callx_min2 rfl) T.n_min (pad_cons (pd_gintE rfl T.c_WORN) (pad_cons (pd_dget2 hu (pd_var 2 (pv 2)) (pd_tup (pad_cons (pd_var 4 (pv 4)) (pad_cons (pd_var 5 (pv 5)) pad_nil))) pd_int ⟨rfl, rfl, rfl, rfl⟩) pad_nil)))))
      (pssd_one (psd_expr (pd_mt PySem.F.slot_list_append PySem.F.type_list_append mtx_append (pd_var 3 (pv 3)) (pad_cons (pd_tup (pad_cons (pd_var 4 (pv 4)) (pad_cons (pd_var 5 (pv 5)) (pad_cons (pdB (callx_max2 rfl) T.n_max (pad_cons pd_int (pad_cons (pd_bin opx_sub mono_oF (pd_var 6 (pv 6)) (pd_var 8 (pv 8))) pad_nil))) (pad_cons (pd_var 7 (pv 7)) pad_nil))))) pad_nil))))))
      (pssd_one (psd_ret (pd_tup (pad_cons (pd_frz (pd_var 3 (pv 3))) (pad_cons (pd_lc (own := [("row", 9)]) (.one 9) rfl sc_worn.nd (pid_any (pdI (pd_var 0 (pv 0)) pd_int)) (blkOk_by (N := N_worn) (sc := defScope s_worn) (own := [("row", 9)]) (by decide +kernel)) ⟨fun _ _ _ _ _ => (pgN 9 sc_worn.nd), fun _ _ _ _ _ => ptsd_nil, fun _ _ _ _ _ => (pd_callTy callx_list rfl T.n_list (show bootBuiltins "list" = some (.type "list") by decide +kernel) (pad_cons (pd_var 9 (pv 9)) pad_nil))⟩ (by decide)) pad_nil))))))))))
variable (c_worn : KnX P w K mg base "worn" 6 ["book", "uses"] sp_worn)
abbrev N_need_reading : List Str := ["thing"]
theorem sc_need_reading : FnScope N_need_reading ["thing"] (defScope s_need_reading) := scT
include T c_is_reading in
theorem d_need_reading : DDX P w K mg base N_need_reading "need_reading" s_need_reading 2 b_need_reading :=
  fun f cdv A outer s H E B0 A0 s0 hr => have hu := hr.units
  (pssd_one (psd_if (ptd_not (ptd_val (pdK c_is_reading hr (pad_cons (pd_var 0 (pv 0)) pad_nil)))) (pssd_one (psd_raise rfl T.o_NoReading.choose_spec rfl)) pssd_nil))
variable (c_need_reading : KnX P w K mg base "need_reading" 3 ["thing"] sp_need_reading)
abbrev N_words_of : List Str := ["book", "reading", "word"]
theorem sc_words_of : FnScope N_words_of ["book", "reading"] (defScope s_words_of) := scT
include T c_need_book c_need_reading in
theorem d_words_of : DDXL P w K mg base N_words_of "words_of" s_words_of 5 b_words_of :=
  fun f cdv TL A outer s H E B0 A0 s0 hr => have hu := hr.units
  (pssd_cons (psd_expr (pdKX c_need_book hr (pad_cons (pd_var 0 (pv 0)) pad_nil)))
      (pssd_cons (psd_expr (pdKX c_need_reading hr (pad_cons (pd_var 1 (pv 1)) pad_nil)))
      (pssd_one (psd_ret (pd_sortKL TL rfl hr rfl T.n_sorted (pad_cons (pd_lc (own := [("word", 2)]) (.one 2) rfl sc_words_of.nd (pid_any (pdI (pd_var 0 (pv 0)) pd_int)) (blkOk_by (N := N_words_of) (sc := defScope s_words_of) (own := [("word", 2)]) (by decide +kernel)) ⟨fun _ _ _ _ _ => (pgN 2 sc_words_of.nd), fun _ _ _ _ _ => (ptsd_one (ptd_cmp (opx_eq hu) mono_oF (pdI (pd_var 2 (pv 2)) pd_int) (pd_var 1 (pv 1)) (nomark _))), fun _ _ _ _ _ => (pd_var 2 (pv 2))⟩ (by decide)) pad_nil) rfl (lamK_by (by decide +kernel)) (fun _ _ _ _ _ _ => rfl) (pkb_tup (pks_cons (pk_item (i := 2) (by decide)) (pks_cons (pk_item (i := 1) (by decide)) pks_nil))))))))
variable (c_words_of : KnX P w K mg base "words_of" 6 ["book", "reading"] sp_words_of)
abbrev N_candidates : List Str := ["book", "uses", "reading", "times", "some", "word"]
theorem sc_candidates : FnScope N_candidates ["book", "uses", "reading"] (defScope s_candidates) := scT
include T c_need_uses c_times_of c_need_book c_words_of in
theorem d_candidates : DDXL P w K mg base N_candidates "candidates" s_candidates 6 b_candidates :=
  fun f cdv TL A outer s H E B0 A0 s0 hr => have hu := hr.units
  (pssd_cons (psd_expr (pdKX c_need_book hr (pad_cons (pd_var 0 (pv 0)) pad_nil)))
      (pssd_cons (psd_expr (pdKX c_need_uses hr (pad_cons (pd_var 1 (pv 1)) pad_nil)))
      (pssd_cons (psS 3 sc_candidates.nd (pdK c_times_of hr (pad_cons (pd_var 1 (pv 1)) pad_nil)))
      (pssd_cons (psS 4 sc_candidates.nd (pdKX c_words_of hr (pad_cons (pd_var 0 (pv 0)) (pad_cons (pd_var 2 (pv 2)) pad_nil))))
      (pssd_one (psd_ret (pd_bin opx_add mono_oF (pd_lc (own := [("word", 5)]) (.one 5) rfl sc_candidates.nd (pid_any (pd_sortKCL (i := 3) rfl rfl TL rfl hr rfl T.n_sorted (pad_cons (pd_var 4 (pv 4)) pad_nil) rfl (lamKC_by (by decide +kernel)) (fun _ _ _ _ _ _ => rfl) (pkc_negget rfl))) (blkOk_by (N := N_candidates) (sc := defScope s_candidates) (own := [("word", 5)]) (by decide +kernel)) ⟨fun _ _ _ _ _ => (pgN 5 sc_candidates.nd), fun _ _ _ _ _ => ptsd_nil, fun _ _ _ _ _ => (pdI (pd_var 5 (pv 5)) pd_int)⟩ (by decide)) (pd_lst (pad_cons (pd_var 2 (pv 2)) pad_nil)))))))))
variable (c_candidates : KnX P w K mg base "candidates" 7 ["book", "uses", "reading"] sp_candidates)
abbrev N__law_marks : List Str := ["caught", "some", "word", "good"]
theorem sc__law_marks : FnScope N__law_marks ["caught"] (defScope s__law_marks) := scT
include T in
theorem d__law_marks : DD P w K mg base N__law_marks "_law_marks" s__law_marks 0 b__law_marks :=
  fun f cdv A outer s H E hr => have hu := hr.units
  (pssd_cons (psS 1 sc__law_marks.nd (pd_lst (pad_cons (pd_tup (pad_cons pd_str (pad_cons (pd_iso rfl T.n_isinstance rfl T.i_NoBook.choose_spec.1 T.i_NoBook.choose_spec.2 (pd_var 0 (pv 0))) pad_nil))) (pad_cons (pd_tup (pad_cons pd_str (pad_cons (pd_iso rfl T.n_isinstance rfl T.i_NoReading.choose_spec.1 T.i_NoReading.choose_spec.2 (pd_var 0 (pv 0))) pad_nil))) pad_nil))))
      (pssd_cons (psS 1 sc__law_marks.nd (pd_bin opx_add mono_oF (pd_var 1 (pv 1)) (pd_lst (pad_cons (pd_tup (pad_cons pd_str (pad_cons (pd_iso rfl T.n_isinstance rfl T.i_NoPlace.choose_spec.1 T.i_NoPlace.choose_spec.2 (pd_var 0 (pv 0))) pad_nil))) (pad_cons (pd_tup (pad_cons pd_str (pad_cons (pd_iso rfl T.n_isinstance rfl T.i_NoWord.choose_spec.1 T.i_NoWord.choose_spec.2 (pd_var 0 (pv 0))) pad_nil))) pad_nil)))))
      (pssd_cons (psS 1 sc__law_marks.nd (pd_bin opx_add mono_oF (pd_var 1 (pv 1)) (pd_lst (pad_cons (pd_tup (pad_cons pd_str (pad_cons (pd_iso rfl T.n_isinstance rfl T.i_NoRow.choose_spec.1 T.i_NoRow.choose_spec.2 (pd_var 0 (pv 0))) pad_nil))) (pad_cons (pd_tup (pad_cons pd_str (pad_cons (pd_iso rfl T.n_isinstance rfl T.i_Stuck.choose_spec.1 T.i_Stuck.choose_spec.2 (pd_var 0 (pv 0))) pad_nil))) pad_nil)))))
      (pssd_cons (psS 1 sc__law_marks.nd (pd_bin opx_add mono_oF (pd_var 1 (pv 1)) (pd_lst (pad_cons (pd_tup (pad_cons pd_str (pad_cons (pd_iso rfl T.n_isinstance rfl T.i_NoNumber.choose_spec.1 T.i_NoNumber.choose_spec.2 (pd_var 0 (pv 0))) pad_nil))) (pad_cons (pd_tup (pad_cons pd_str (pad_cons (pd_iso rfl T.n_isinstance rfl T.i_NoState.choose_spec.1 T.i_NoState.choose_spec.2 (pd_var 0 (pv 0))) pad_nil))) pad_nil)))))
      (pssd_cons (psS 1 sc__law_marks.nd (pd_bin opx_add mono_oF (pd_var 1 (pv 1)) (pd_lst (pad_cons (pd_tup (pad_cons pd_str (pad_cons (pd_iso rfl T.n_isinstance rfl T.i_PenError.choose_spec.1 T.i_PenError.choose_spec.2 (pd_var 0 (pv 0))) pad_nil))) (pad_cons (pd_tup (pad_cons pd_str (pad_cons (pd_isoT rfl T.n_isinstance rfl T.n_ValueError (show bootBuiltins "ValueError" = some (.type "ValueError") by decide +kernel) T.i_ValueError (pd_var 0 (pv 0))) pad_nil))) pad_nil)))))
      (pssd_one (psd_ret (pd_lc (own := [("word", 2), ("good", 3)]) (.many [2, 3]) rfl sc__law_marks.nd (pid_any (pd_var 1 (pv 1))) (blkOk_by (N := N__law_marks) (sc := defScope s__law_marks) (own := [("word", 2), ("good", 3)]) (by decide +kernel)) ⟨fun _ _ _ _ _ => (pg_tup rfl (pgs_n1 (pgN 2 sc__law_marks.nd) (pgs_n1 (pgN 3 sc__law_marks.nd) pgs_n0))), fun _ _ _ _ _ => (ptsd_one (ptd_val (pd_var 3 (pv 3)))), fun _ _ _ _ _ => (pd_var 2 (pv 2))⟩ (by decide)))))))))
variable (c__law_marks : Kn P w K mg base "_law_marks" 1 ["caught"] sp__law_marks)
abbrev N__law_asked : List Str := ["way", "book", "uses", "reading", "caught", "e"]
theorem sc__law_asked : FnScope N__law_asked ["way", "book", "uses", "reading"] (defScope s__law_asked) := scT
include T c_counted c_worn c_candidates c__law_marks in
theorem d__law_asked : DD P w K mg base N__law_asked "_law_asked" s__law_asked 7 b__law_asked :=
  fun f cdv A outer s H E hr => have hu := hr.units
  (pssd_cons (psS 4 sc__law_asked.nd pd_non)
      (pssd_cons (psd_try (i := 5) T.h_PenError.choose_spec rfl rfl rfl sc__law_asked.nd rfl rfl rfl (by decide) (wms_if (mono_test (mono_bin mono_oF mono_var mono_c)) (wms_drop (wm_call mono_counted (mono_cons mono_var mono_nil))) (wms_if (mono_test (mono_bin mono_oF mono_var mono_c)) (wms_drop (wm_call mono_worn (mono_cons mono_var (mono_cons mono_var mono_nil)))) (wms_drop (wm_call mono_candidates (mono_cons mono_var (mono_cons mono_var (mono_cons mono_var mono_nil))))))) (fun _ _ _ _ _ _ _ _ => (pssd_one (psd_if (ptd_cmp (opx_eq hu) mono_oF (pd_var 0 (pv 0)) pd_int (nomark _)) (pssd_one (psd_expr (pdKX c_counted hr (pad_cons (pd_var 2 (pv 2)) pad_nil)))) (pssd_one (psd_if (ptd_cmp (opx_eq hu) mono_oF (pd_var 0 (pv 0)) pd_int (nomark _)) (pssd_one (psd_expr (pdKX c_worn hr (pad_cons (pd_var 1 (pv 1)) (pad_cons (pd_var 2 (pv 2)) pad_nil))))) (pssd_one (psd_expr (pdKX c_candidates hr (pad_cons (pd_var 1 (pv 1)) (pad_cons (pd_var 2 (pv 2)) (pad_cons (pd_var 3 (pv 3)) pad_nil))))))))))) (fun _ _ => (pssd_one (psS 4 sc__law_asked.nd (pd_var 5 (pv 5))))))
      (pssd_one (psd_ret (pdK c__law_marks hr (pad_cons (pd_var 4 (pv 4)) pad_nil))))))
variable (c__law_asked : Kn P w K mg base "_law_asked" 8 ["way", "book", "uses", "reading"] sp__law_asked)
abbrev N__law_right : List Str := ["pot", "book", "reading", "uses", "kept", "way", "odd", "due"]
theorem sc__law_right : FnScope N__law_right ["pot"] (defScope s__law_right) := scT
include T c__law_dip c__law_book c__law_reading c__law_uses c__law_bent c__law_due c__law_asked in
theorem d__law_right : DD P w K mg base N__law_right "_law_right" s__law_right 8 b__law_right :=
  fun f cdv A outer s H E hr => have hu := hr.units
  (pssd_cons (psS 1 sc__law_right.nd (pdK c__law_book hr (pad_cons (pd_var 0 (pv 0)) (pad_cons pd_int pad_nil))))
      (pssd_cons (psS 2 sc__law_right.nd (pdK c__law_reading hr (pad_cons (pd_var 0 (pv 0)) (pad_cons (pd_var 1 (pv 1)) pad_nil))))
      (pssd_cons (psS 3 sc__law_right.nd (pdK c__law_uses hr (pad_cons (pd_var 0 (pv 0)) (pad_cons (pd_var 1 (pv 1)) (pad_cons pd_int pad_nil)))))
      (pssd_cons (psd_if (ptd_cmp (opx_eq hu) mono_oF (pdK c__law_dip hr (pad_cons (pd_var 0 (pv 0)) (pad_cons pd_int pad_nil))) pd_int (nomark _)) (pssd_one (psS 1 sc__law_right.nd (pdK c__law_bent hr (pad_cons (pd_var 0 (pv 0)) (pad_cons (pd_var 1 (pv 1)) (pad_cons pd_int pad_nil)))))) pssd_nil)
      (pssd_cons (psd_if (ptd_cmp (opx_eq hu) mono_oF (pdK c__law_dip hr (pad_cons (pd_var 0 (pv 0)) (pad_cons pd_int pad_nil))) pd_int (nomark _)) (pssd_cons (psS 6 sc__law_right.nd (pd_lst (pad_cons (pd_tup (pad_cons (pd_var 2 (pv 2)) (pad_cons (pd_var 2 (pv 2)) pad_nil))) (pad_cons (pd_tup (pad_cons (pd_var 2 (pv 2)) (pad_cons pd_str (pad_cons pd_int pad_nil)))) (pad_cons (pd_lst (pad_cons (pd_var 2 (pv 2)) (pad_cons pd_str pad_nil))) pad_nil)))))
      (pssd_cons (psS 6 sc__law_right.nd (pd_bin opx_add mono_oF (pd_var 6 (pv 6)) (pd_lst (pad_cons (pd_tup (pad_cons (pd_var 2 (pv 2)) (pad_cons (pd_bin opx_mul (mono_oOr mono_iic mono_oF) pd_str pd_int) pad_nil))) (pad_cons (pd_tup (pad_cons pd_str (pad_cons pd_str pad_nil))) (pad_cons (pd_tup (pad_cons pd_str (pad_cons pd_str pad_nil))) pad_nil))))))
      (pssd_one (psS 3 sc__law_right.nd (pdI (pd_lst (pad_cons (pd_bin opx_add mono_oF (pd_var 3 (pv 3)) (pd_lst (pad_cons (pdI (pd_var 6 (pv 6)) (pdK c__law_dip hr (pad_cons (pd_var 0 (pv 0)) (pad_cons pd_int pad_nil)))) pad_nil))) (pad_cons (pdK c__law_bent hr (pad_cons (pd_var 0 (pv 0)) (pad_cons (pd_var 3 (pv 3)) (pad_cons pd_int pad_nil)))) pad_nil))) (pdK c__law_dip hr (pad_cons (pd_var 0 (pv 0)) (pad_cons pd_int pad_nil)))))))) pssd_nil)
      (pssd_cons (psd_if (ptd_cmp (opx_eq hu) mono_oF (pdK c__law_dip hr (pad_cons (pd_var 0 (pv 0)) (pad_cons pd_int pad_nil))) pd_int (nomark _)) (pssd_one (psS 2 sc__law_right.nd (pdI (pd_lst (pad_cons (pdK c__law_bent hr (pad_cons (pd_var 0 (pv 0)) (pad_cons (pd_var 2 (pv 2)) (pad_cons pd_int pad_nil)))) (pad_cons (pd_bin opx_mul (mono_oOr mono_iic mono_oF) (pd_var 2 (pv 2)) pd_int) (pad_cons pd_str pad_nil)))) (pdK c__law_dip hr (pad_cons (pd_var 0 (pv 0)) (pad_cons pd_int pad_nil)))))) pssd_nil)
      (pssd_cons (psS 4 sc__law_right.nd (pd_callB (callx_reprE hu hr.g) rfl T.n_repr (show bootBuiltins "repr" = some (.builtin "repr") by decide +kernel) (pad_cons (pd_lst (pad_cons (pd_var 1 (pv 1)) (pad_cons (pd_var 3 (pv 3)) (pad_cons (pd_var 2 (pv 2)) pad_nil)))) pad_nil)))
      (pssd_cons (psd_for PassesOwn.never rfl (pid_range1 rfl T.n_range (pad_cons pd_int pad_nil)) (pgd_name (pgN 5 sc__law_right.nd)) (pssd_cons (psS 7 sc__law_right.nd (pdK c__law_due hr (pad_cons (pd_var 5 (pv 5)) (pad_cons (pd_var 1 (pv 1)) (pad_cons (pd_var 3 (pv 3)) (pad_cons (pd_var 2 (pv 2)) pad_nil))))))
      (pssd_one (psd_if (ptd_cmp (opx_ne hu) mono_oF (pdK c__law_asked hr (pad_cons (pd_var 5 (pv 5)) (pad_cons (pd_var 1 (pv 1)) (pad_cons (pd_var 3 (pv 3)) (pad_cons (pd_var 2 (pv 2)) pad_nil))))) (pdI (pd_lst (pad_cons (pd_lst (pad_cons (pd_var 7 (pv 7)) (pad_cons pd_str (pad_cons pd_str pad_nil)))) (pad_cons (pd_lst pad_nil) pad_nil))) (pd_callTy callx_int rfl T.n_int (show bootBuiltins "int" = some (.type "int") by decide +kernel) (pad_cons (pd_cmp (opx_eq hu) mono_oF (pd_var 7 (pv 7)) pd_str (nomark _)) pad_nil))) (nomark _)) (pssd_one (psd_ret pd_bl)) pssd_nil))))
      (pssd_one (psd_ret (pd_cmp (opx_eq hu) mono_oF (pd_callB (callx_reprE hu hr.g) rfl T.n_repr (show bootBuiltins "repr" = some (.builtin "repr") by decide +kernel) (pad_cons (pd_lst (pad_cons (pd_var 1 (pv 1)) (pad_cons (pd_var 3 (pv 3)) (pad_cons (pd_var 2 (pv 2)) pad_nil)))) pad_nil)) (pd_var 4 (pv 4)) (nomark _))))))))))))
variable (c__law_right : Kn P w K mg base "_law_right" 9 ["pot"] sp__law_right)
abbrev N_law : List Str := ["script", "pot", "k", "text"]
theorem sc_law : FnScope N_law ["script"] (defScope s_law) := scT
include T c__law_pot c__law_text c__law_right in
theorem d_law : DD P w K mg base N_law "law" s_law 9 b_law :=
  fun f cdv A outer s H E hr => have hu := hr.units
  (pssd_cons (psS 1 sc_law.nd (pdK c__law_pot hr (pad_cons (pd_var 0 (pv 0)) pad_nil)))
      (pssd_cons (psd_for PassesOwn.never rfl (pid_range1 rfl T.n_range (pad_cons (pd_bin opx_add mono_oF pd_int (pd_bin opx_mul (mono_oOr mono_iic mono_oF) pd_int (pdB callx_len T.n_len (pad_cons (pd_slice (pd_var 0 (pv 0)) pod_none (pod_some pd_int)) pad_nil)))) pad_nil)) (pgd_name (pgN 2 sc_law.nd)) (pssd_one (psd_if (ptd_not (ptd_val (pdK c__law_right hr (pad_cons (pd_var 1 (pv 1)) pad_nil)))) (pssd_one (psd_ret pd_bl)) pssd_nil)))
      (pssd_cons (psS 3 sc_law.nd (pdK c__law_text hr (pad_cons (pd_var 1 (pv 1)) (pad_cons pd_str (pad_cons pd_int pad_nil)))))
      (pssd_one (psd_ret (pd_cmp (opx_eq hu) mono_oF (pd_callTy (callx_strX hu hr.g T.sx) rfl T.n_str (show bootBuiltins "str" = some (.type "str") by decide +kernel) (pad_cons (pd_excT T.v_NoWord.choose_spec rfl (pd_var 3 (pv 3))) pad_nil)) (pd_var 3 (pv 3)) (nomark _)))))))
end Qk24
namespace Qk19
open PySem PySem.Spec PyProof.Rows L2 Dl Bk Fa
theorem row_u {u : D} {n : Int} (h : IsU u) : ∃ r w, u = .tup [.str r, .str w] ∧ rowD (u, n) = .tup [.str r, .str w, .int n] := by
  obtain ⟨r, w, rfl, _⟩ := h
  exact ⟨r, w, rfl, rfl⟩
theorem getP_mem {κ α : Type} [DecidableEq κ] : ∀ {es : List (κ × α)} {p : κ × α}, (es.map (·.1)).Nodup → p ∈ es → getP es p.1 = some p.2
  | [], _, _, h => nomatch h
  | q :: es, p, hn, h => by
    rw [getP_cons]
    rw [List.map_cons, List.nodup_cons] at hn
    rcases List.mem_cons.mp h with rfl | h
    · rw [if_pos rfl]
    · rw [if_neg (fun e => hn.1 (by rw [e]; exact List.mem_map.mpr ⟨p, h, rfl⟩))]
      exact getP_mem hn.2 h
def intsOfE (us : List D) (es : List (List Key × D)) : List (List Key × Int) := es.map fun p => (p.1, ((cnt us p.1 : Nat) : Int))
section
variable {us : List D} {es : List (List Key × D)} (h : TimesOk us es) (hU : ∀ u ∈ us, IsU u)
include h hU
theorem times_ints : es = (intsOfE us es).map fun p => (p.1, D.int p.2) := by
  unfold intsOfE
  rw [List.map_map]
  conv => lhs; rw [← List.map_id es]
  refine List.map_congr_left fun p hp => ?_
  have e := getP_mem h.nd hp
  rw [h.get] at e
  split at e
  · cases e
  · exact Prod.ext rfl (Option.some.inj e).symm
theorem key_of_mem {k : List Key} (hk : k ∈ es.map (·.1)) : ∃ u ∈ us, pairK u = k ∧ .tup (k.map kD) = u := by
  obtain ⟨p, hp, rfl⟩ := List.mem_map.mp hk
  have e := getP_mem h.nd hp
  rw [h.get] at e
  split at e
  · cases e
  · rename_i hne
    have hne' : (us.filter fun u => decide (pairK u = p.1)) ≠ [] := fun z => hne (by unfold Fa.cnt; rw [z]; rfl)
    obtain ⟨u, hu⟩ := List.exists_mem_of_ne_nil _ hne'
    obtain ⟨h1, h2⟩ := List.mem_filter.mp hu
    have h3 := of_decide_eq_true h2
    refine ⟨u, h1, h3, ?_⟩
    obtain ⟨r, w, rfl, _⟩ := hU u h1
    rw [← h3]; rfl
theorem keys_all {u : D} (hu : u ∈ us) : pairK u ∈ es.map (·.1) := by
  cases hg : getP es (pairK u) with
  | none =>
    rw [h.get] at hg
    split at hg
    · rename_i h0
      have h1 : u ∈ us.filter fun x => decide (pairK x = pairK u) := List.mem_filter.mpr ⟨hu, decide_eq_true rfl⟩
      have h2 : us.filter (fun x => decide (pairK x = pairK u)) = [] := List.length_eq_zero_iff.mp h0
      rw [h2] at h1
      cases h1
    · cases hg
  | some v =>
    refine Classical.byContradiction fun hn => ?_
    rw [getP_none.mpr hn] at hg
    cases hg
theorem sortIt_ok (hl : us.length ≤ 1000) : SortIt (intsOfE us es) where
  al := fun d hd d' hd' => by
    obtain ⟨p, hp, rfl⟩ := List.mem_map.mp hd
    obtain ⟨p', hp', rfl⟩ := List.mem_map.mp hd'
    obtain ⟨q, hq, rfl⟩ := List.mem_map.mp hp
    obtain ⟨q', hq', rfl⟩ := List.mem_map.mp hp'
    obtain ⟨u, hu, _, e⟩ := key_of_mem h hU (List.mem_map.mpr ⟨q, hq, rfl⟩)
    obtain ⟨u', hu', _, e'⟩ := key_of_mem h hU (List.mem_map.mpr ⟨q', hq', rfl⟩)
    have a := alike_u (hU u hu) (hU u' hu')
    rw [← e, ← e'] at a
    show PySem.W.alike (.tuple [pyD (.tup (q.1.map kD)), .int _]) (.tuple [pyD (.tup (q'.1.map kD)), .int _]) = true
    simp [PySem.W.alike, PySem.W.alikeAll, a]
  ln := by
    show (es.map _).length ≤ sizeLine
    rw [List.length_map]; exact le_line (by have := h.len; omega)
  dp := fun p hp => by
    obtain ⟨q, hq, rfl⟩ := List.mem_map.mp hp
    obtain ⟨u, hu, _, e⟩ := key_of_mem h hU (List.mem_map.mpr ⟨q, hq, rfl⟩)
    show (PyData.tuple [pyD (.tup (q.1.map kD)), .int _]).depth ≤ 40
    rw [e]
    obtain ⟨r, w, rfl, _⟩ := hU u hu
    show (PyData.tuple [.tuple [.str r, .str w], .int _]).depth ≤ 40
    simp [PyData.depth, PyData.depthAll]
  ks := fun p hp k hk z hz => by
    obtain ⟨q, hq, rfl⟩ := List.mem_map.mp hp
    obtain ⟨u, hu, e2, _⟩ := key_of_mem h hU (List.mem_map.mpr ⟨q, hq, rfl⟩)
    obtain ⟨r, w, rfl, ⟨_, _, b⟩, _, _, c⟩ := hU u hu
    have hk' : k ∈ ([.inr r, .inr w] : List Key) := by
      have e3 : ([.inr r, .inr w] : List Key) = q.1 := e2
      rw [e3]; exact hk
    rcases (by simpa using hk' : k = .inr r ∨ k = .inr w) with rfl | rfl
    · cases hz; exact le_line (by omega)
    · cases hz; exact le_line (by omega)
theorem counts_of : IsCnt us ((srtI (intsOfE us es)).map fun p => (D.tup (p.1.map kD), p.2)) := by
  have perm : (srtI (intsOfE us es)).Perm (intsOfE us es) := List.mergeSort_perm _ _
  have mem : ∀ p ∈ srtI (intsOfE us es), ∃ u ∈ us, pairK u = p.1 ∧ .tup (p.1.map kD) = u ∧ p.2 = ((cnt us p.1 : Nat) : Int) := fun p hp => by
    obtain ⟨q, hq, rfl⟩ := List.mem_map.mp (perm.mem_iff.mp hp)
    obtain ⟨u, h1, h2, h3⟩ := key_of_mem h hU (List.mem_map.mpr ⟨q, hq, rfl⟩)
    exact ⟨u, h1, h2, h3, rfl⟩
  have nd0 : ((srtI (intsOfE us es)).map (·.1)).Nodup := by
    have e : (intsOfE us es).map (·.1) = es.map (·.1) := by unfold intsOfE; rw [List.map_map]; rfl
    exact ((perm.map (·.1)).nodup_iff).mpr (by rw [e]; exact h.nd)
  have ne : ∀ p ∈ srtI (intsOfE us es), ∀ q ∈ srtI (intsOfE us es), p.1 ≠ q.1 → D.tup (p.1.map kD) ≠ .tup (q.1.map kD) := fun p hp q hq hn e => by
    obtain ⟨u, h1, h2, h3, _⟩ := mem p hp
    obtain ⟨u', h1', h2', h3', _⟩ := mem q hq
    have : u = u' := by rw [← h3, ← h3', e]
    exact hn (by rw [← h2, ← h2', this])
  refine ⟨?_, ?_, fun p hp => ?_, fun u hu => ?_⟩
  · rw [List.map_map, List.pairwise_map]
    have srt := List.pairwise_mergeSort (le := PySem.W.dataLe false fun p : List Key × Int => pyD (itT p)) (fun a b c h1 h2 => le_trans' (a := itT a) (b := itT b) (c := itT c) h1 h2) (fun a b => le_total (a := itT a) (b := itT b)) (intsOfE us es)
    have both := (List.pairwise_map.mp nd0).and srt
    refine both.imp_of_mem fun {p q} hp hq hpq => ?_
    obtain ⟨u, h1, h2, h3, _⟩ := mem p hp
    obtain ⟨u', h1', h2', h3', _⟩ := mem q hq
    have e := le_it (k := p.1) (k' := q.1) (n := p.2) (n' := q.2) (by rw [h3]; exact hU u h1) (by rw [h3']; exact hU u' h1') (ne p hp q hq hpq.1)
    show le (.tup (p.1.map kD)) (.tup (q.1.map kD)) = true
    rw [← e]
    exact hpq.2
  · rw [List.map_map]
    show (List.map _ _).Nodup
    refine List.pairwise_map.mpr ((List.pairwise_map.mp nd0).imp_of_mem fun {p q} hp hq hn => ne p hp q hq hn)
  · obtain ⟨q, hq, rfl⟩ := List.mem_map.mp hp
    obtain ⟨u, h1, h2, h3, h4⟩ := mem q hq
    refine ⟨by show D.tup _ ∈ us; rw [h3]; exact h1, ?_⟩
    show q.2 = _
    rw [h4]
    show _ = ((cnt us (pairK (.tup (q.1.map kD))) : Nat) : Int)
    rw [h3, h2]
  · rw [List.map_map]
    have hk := keys_all h hU hu
    obtain ⟨p, hp, e⟩ := List.mem_map.mp hk
    refine List.mem_map.mpr ⟨(p.1, ((cnt us p.1 : Nat) : Int)), perm.mem_iff.mpr (List.mem_map.mpr ⟨p, hp, rfl⟩), ?_⟩
    show D.tup (p.1.map kD) = u
    rw [e]
    obtain ⟨r, w, rfl, _⟩ := hU u hu
    rfl
end
end Qk19
namespace Qk24
open PySem PySem.Spec PyProof.Rows L2 Dl Bk
open Fa (IsU isPr Rdg Wof TimesOk StT ifD ifB ifT ifF two three sp_times_of sp_is_pair sp__law_dip sp__law_text sp__law_book sp__law_reading sp__law_uses sp__law_signs strL strL_length fapp StT.up StT.len StT.app IsU.pr IsU.sz)
open Fb (gd gd_all gd_tup gd_lst)
open Pc (Gk bkD candL Gw Gw.refl)
open Qk19 (times_ints counts_of intsOfE sortIt_ok)
theorem pr_isU {x : D} (h : isPr x = true) : IsU x := by
  unfold isPr at h
  split at h
  · rename_i a b
    rw [Bool.and_eq_true] at h
    obtain ⟨h1, h2⟩ := h
    cases a <;> try (exact Bool.noConfusion h1)
    cases b <;> try (exact Bool.noConfusion h2)
    rename_i r w
    have h1 : (sgnIn "abcdefghijklmnopqrstuvwxyz" r && (decide (1 ≤ (r.length : Int)) && decide ((r.length : Int) ≤ 40))) = true := h1
    have h2 : (sgnIn "ABCDEFGHIJKLMNOPQRSTUVWXYZ" w && (decide (1 ≤ (w.length : Int)) && decide ((w.length : Int) ≤ 12))) = true := h2
    simp only [Bool.and_eq_true, decide_eq_true_iff] at h1 h2
    exact ⟨r, w, rfl, ⟨h1.1, by omega, by omega⟩, h2.1, by omega, by omega⟩
  · cases h
theorem rd_of {x : D} (h : rdF x = true) : ∃ z, x = .str z ∧ Rdg z := by
  unfold rdF at h
  cases x <;> try (exact Bool.noConfusion h)
  rename_i z
  have h : (sgnIn "abcdefghijklmnopqrstuvwxyz" z && (decide (1 ≤ (z.length : Int)) && decide ((z.length : Int) ≤ 40))) = true := h
  simp only [Bool.and_eq_true, decide_eq_true_iff] at h
  exact ⟨z, rfl, h.1, by omega, by omega⟩
abbrev AccK := List (List Key × D)
theorem fold_le : ∀ (ws : List D) (acc : AccK), (ws.foldl (fun acc w => putP acc (pairK w) (D.bl true)) acc).length ≤ acc.length + ws.length
  | [], acc => Nat.le_refl _
  | w :: ws, acc => by
    rw [List.foldl_cons, List.length_cons]
    have h1 := fold_le ws (putP acc (pairK w) (D.bl true))
    have h2 := putP_len acc (pairK w) (D.bl true)
    omega
theorem fold_inv : ∀ (ws : List D) (acc : AccK), (acc.map (·.1)).Nodup → (ws.foldl (fun acc w => putP acc (pairK w) (D.bl true)) acc).length = acc.length + ws.length → (acc.map (·.1) ++ ws.map pairK).Nodup
  | [], acc, h, _ => by rw [List.map_nil, List.append_nil]; exact h
  | w :: ws, acc, h, e => by
    rw [List.foldl_cons, List.length_cons] at e
    have h1 := fold_le ws (putP acc (pairK w) (D.bl true))
    have hn : (acc.any fun p => decide (p.1 = pairK w)) = false := by
      cases ha : acc.any fun p => decide (p.1 = pairK w) with
      | false => rfl
      | true =>
        have : (putP acc (pairK w) (D.bl true)).length = acc.length := by
          unfold putP
          rw [if_pos ha, List.length_map]
        omega
    have ep : putP acc (pairK w) (D.bl true) = acc ++ [(pairK w, .bl true)] := by
      unfold putP
      rw [if_neg (by rw [hn]; exact Bool.false_ne_true)]
    rw [ep] at e
    have hk : pairK w ∉ acc.map (·.1) := fun z => by
      obtain ⟨p, hp, q⟩ := List.mem_map.mp z
      have := List.any_eq_false.mp hn p hp
      exact this (decide_eq_true q)
    have := fold_inv ws (acc ++ [(pairK w, .bl true)]) (by
      rw [List.map_append, List.nodup_append]
      refine ⟨h, List.nodup_cons.mpr ⟨fun h => (nomatch h), List.nodup_nil⟩, fun x hx y hy => ?_⟩
      rw [List.mem_singleton.mp hy]
      exact fun z => hk (by
        have z : x = pairK w := z
        rwa [z] at hx)) (by rw [e, List.length_append]; show _ = acc.length + 1 + ws.length; omega)
    rw [List.map_append, List.append_assoc] at this
    exact this
theorem bk_of {n w d : Nat} {x : D} (g : Fh.Gd n w d x) (hn : n ≤ 51) (h : isBk x = true) : ∃ ws rows, x = bkD ws rows ∧ BookOk 1000 ws rows := by
  unfold isBk at h
  split at h
  case h_2 => cases h
  rename_i ws j
  have hu := g.u; have hl := g.l
  rw [Bool.and_eq_true, Bool.and_eq_true] at h
  obtain ⟨h1, h2, h3⟩ := h
  cases j <;> try (exact Bool.noConfusion h2)
  rename_i rows
  have hu : Fh.um (.tup [.lst ws, .lst rows]) = true := hu
  have u1 : ∀ x ∈ ws, Fh.um x = true := Fh.umL_iff.mp (Fh.umL_iff.mp hu (.lst ws) List.mem_cons_self)
  have u2 : ∀ x ∈ rows, Fh.um x = true := Fh.umL_iff.mp (Fh.umL_iff.mp hu (.lst rows) (List.mem_cons_of_mem _ List.mem_cons_self))
  have l0 := (Fh.ls_tup.mp hl).2
  have l1 := Fh.ls_lst.mp (l0 (.lst ws) List.mem_cons_self)
  have l2 := Fh.ls_lst.mp (l0 (.lst rows) (List.mem_cons_of_mem _ List.mem_cons_self))
  have h2 : (!decide (rows = []) && rows.all (rowOk rows.length)) = true := h2
  rw [Bool.and_eq_true] at h2
  have h3 : (ws.all (fun w => decide (kindOf w < (rows.length : Int) - 1)) && decide ((dictOf ws).length = ws.length)) = true := h3
  rw [Bool.and_eq_true, decide_eq_true_iff] at h3
  refine ⟨ws, rows, rfl, by omega, fun x hx => ?_, ?_, ?_, by omega, fun x hx => ?_⟩
  · have a1 := List.all_eq_true.mp h1 x hx
    have a2 := of_decide_eq_true (List.all_eq_true.mp h3.1 x hx)
    have a3 := u1 x hx
    unfold isWd at a1
    split at a1
    case h_2 => cases a1
    rename_i a b c k
    rw [Bool.and_eq_true, Bool.and_eq_true, Bool.and_eq_true] at a1
    obtain ⟨b1, b2, b3, b4⟩ := a1
    cases a <;> try (exact Bool.noConfusion b1)
    cases b <;> try (exact Bool.noConfusion b2)
    cases c <;> try (exact Bool.noConfusion b3)
    cases k <;> try (exact Bool.noConfusion b4)
    rename_i r z c k
    have b1 : (sgnIn "abcdefghijklmnopqrstuvwxyz" r && (decide (1 ≤ (r.length : Int)) && decide ((r.length : Int) ≤ 40))) = true := b1
    have b2 : (sgnIn "ABCDEFGHIJKLMNOPQRSTUVWXYZ" z && (decide (1 ≤ (z.length : Int)) && decide ((z.length : Int) ≤ 12))) = true := b2
    simp only [Bool.and_eq_true, decide_eq_true_iff] at b1 b2
    have b3 : (0 : Int) ≤ c := of_decide_eq_true b3
    have b4 : (0 : Int) ≤ k := of_decide_eq_true b4
    have hc : Fh.um (.int c) = true := Fh.umL_iff.mp (show Fh.umL [.str r, .str z, .int c, .int k] = true from a3) (.int c) (List.mem_cons_of_mem _ (List.mem_cons_of_mem _ List.mem_cons_self))
    have hc : c ≤ 1000000000000 := of_decide_eq_true hc
    exact ⟨r, z, c, k, rfl, b1.1, by omega, by omega, b2.1, by omega, by omega, b3, hc, b4, a2⟩
  · have := fold_inv ws [] List.nodup_nil (by
      have := h3.2
      unfold dictOf at this
      rw [this, List.length_nil]; omega)
    simpa using this
  · intro e
    rw [e] at h2
    exact Bool.noConfusion h2.1
  · have a1 := List.all_eq_true.mp h2.2 x hx
    have a3 := u2 x hx
    unfold rowOk at a1
    split at a1
    case h_2 => cases a1
    rename_i js
    rw [Bool.and_eq_true, decide_eq_true_iff] at a1
    have hj : ∀ y ∈ js, ∃ i : Int, y = .int i ∧ 0 ≤ i ∧ i ≤ 1000000000000 := fun y hy => by
      have c1 := List.all_eq_true.mp a1.2 y hy
      have c2 := Fh.umL_iff.mp (show Fh.umL js = true from a3) y hy
      cases y <;> try (exact Bool.noConfusion c1)
      rename_i i
      exact ⟨i, rfl, of_decide_eq_true c1, of_decide_eq_true c2⟩
    have : ∃ is : List Int, js = is.map .int ∧ ∀ i ∈ is, 0 ≤ i ∧ i ≤ 1000000000000 := by
      clear a1 a3 hx
      induction js with
      | nil => exact ⟨[], rfl, fun _ h => nomatch h⟩
      | cons y js ih =>
        obtain ⟨i, rfl, i0, i1⟩ := hj y List.mem_cons_self
        obtain ⟨is, rfl, his⟩ := ih fun y hy => hj y (List.mem_cons_of_mem _ hy)
        exact ⟨i :: is, rfl, List.forall_mem_cons.mpr ⟨⟨i0, i1⟩, his⟩⟩
    obtain ⟨is, rfl, his⟩ := this
    exact ⟨is, rfl, by rw [← a1.1, List.length_map], his⟩
theorem us_of {n w d : Nat} {x : D} (g : Fh.Gd n w d x) (hn : n ≤ 500) (h : usF x = true) : ∃ us, x = .lst us ∧ us.length ≤ 500 ∧ ∀ u ∈ us, IsU u := by
  unfold usF at h
  split at h
  case h_2 => cases h
  rename_i us
  have hl := (Fh.ls_lst.mp g.l).1
  exact ⟨us, rfl, by omega, fun u hu => pr_isU (List.all_eq_true.mp h u hu)⟩
theorem gd_sz {n w d : Nat} {x : D} (g : Fh.Gd n w d x) (hn : n ≤ 1000000) : szB NN x = true := szB_mono hn _ (gd_all hn x g.g).1
theorem bkx_of {n w d : Nat} {x : D} (g : Fh.Gd n w d x) (hn : n ≤ 51) : Bkx x := ⟨gd_sz g (by omega), bk_of g hn⟩
theorem usx_of {n w d : Nat} {x : D} (g : Fh.Gd n w d x) (hn : n ≤ 500) : Usx x := ⟨gd_sz g (by omega), us_of g hn⟩
theorem rdx_of {n w d : Nat} {x : D} (g : Fh.Gd n w d x) (hn : n ≤ 1000000) : Rdx x := ⟨gd_sz g hn, rd_of⟩
section
variable (ds : List D) (s : Sto) (Q : D → Sto → Prop) (E : XD)
theorem pf_need_book (h : sp_need_book ds s Q E) : b_need_book (fun y fs _ s' => E y fs s') (endsOf Q) (envD ["thing"] ds) s := by
  obtain ⟨x, rfl, hx, hn, hy⟩ := h
  refine ⟨_, rfl, x, rfl, hx, _, rfl, ?_⟩
  cases e : isBk x with
  | false => exact hn e
  | true => exact hy e
theorem pf_need_reading (h : sp_need_reading ds s Q E) : b_need_reading (fun y fs _ s' => E y fs s') (endsOf Q) (envD ["thing"] ds) s := by
  obtain ⟨x, rfl, hx, hn, hy⟩ := h
  refine ⟨_, rfl, x, rfl, hx, _, rfl, ?_⟩
  unfold rdF at hn hy
  cases e : sgnF "abcdefghijklmnopqrstuvwxyz" 40 x with
  | false => exact hn e
  | true => exact hy e
theorem pf_need_uses (h : sp_need_uses ds s Q E) : b_need_uses (fun y fs _ s' => E y fs s') (endsOf Q) (envD ["thing", "pair"] ds) s := by
  obtain ⟨x, rfl, hx, hn, hy⟩ := h
  cases x with
  | frl _ => cases hx
  | ref _ => cases hx
  | exc _ _ _ => cases hx
  | lst us =>
    obtain ⟨hl, hm⟩ := sz_lst.mp hx
    refine ⟨_, rfl, _, rfl, _, rfl, ?_⟩
    refine all_tells isPr rfl hl (fun d hd P p => ⟨_, rfl, d, rfl, hm d hd, p⟩) ⟨_, rfl, ?_⟩
    have hn : us.all isPr = false → _ := hn
    have hy : us.all isPr = true → _ := hy
    cases e : us.all isPr with
    | false => exact hn e
    | true => exact hy e
  | _ => exact ⟨_, rfl, _, rfl, _, rfl, hn rfl⟩
theorem pf_words_of (h : sp_words_of ds s Q E) : b_words_of (fun y fs _ s' => E y fs s') (endsOf Q) (envD ["book", "reading", "word"] ds) s := by
  obtain ⟨ws, rows, r, rfl, hB, hr, hn, hy⟩ := h
  refine ⟨_, rfl, _, rfl, szB_mono (by decide) _ (hB.sz (by decide)), fun n => absurd (hB.isBk.symm.trans n) (by decide), fun _ => ?_⟩
  refine ⟨_, rfl, r, rfl, hr.sz, hn, fun e => ?_⟩
  obtain ⟨z, rfl, hz⟩ := hr.ok e
  have H := Fa.pf_words_of _ s Q E ⟨1000, ws, rows, z, rfl, hB, Nat.le_refl _, hz, fun L hL => hy z rfl hz L hL⟩
  obtain ⟨_, c1, _, c2, _, _, H⟩ := H
  obtain ⟨_, c1, _, c2, _, _, _, H⟩ := H
  cases c1; cases c2
  exact H
theorem pf_counted (h : sp_counted ds s Q E) : b_counted (fun y fs _ s' => E y fs s') (endsOf Q) (envD ["uses", "pair", "times"] ds) s := by
  obtain ⟨u, rfl, hu, hn, hy⟩ := h
  refine ⟨_, rfl, u, rfl, hu.sz, hn, fun e => ?_⟩
  obtain ⟨us, rfl, hl, hU⟩ := hu.ok e
  refine ⟨_, rfl, us, rfl, by omega, hU, fun es hT => ?_⟩
  have hes := times_ints hT hU
  have hc := counts_of hT hU
  have hd : dictD (s ++ [none]) (DV.t es).d = some (.t ((intsOfE us es).map fun p => (p.1, D.int p.2))) := by rw [← hes]; exact dictD_d
  have hlen : (srtI (intsOfE us es)).length ≤ 500 := by
    have e : (srtI (intsOfE us es)).length = (intsOfE us es).length := (List.mergeSort_perm _ _).length_eq
    have e2 : (intsOfE us es).length = es.length := by unfold intsOfE; rw [List.length_map]
    have := hT.len
    omega
  refine ⟨_, hd, sortIt_ok hT hU (by omega), _, _, isW_lst, le_line (by rw [List.length_map]; omega), ?_⟩
  refine lcD_pure (fun _ => true) (fun d => match d with | .tup [u, .int n] => Fa.rowD (u, n) | x => x) trivial (fun d hd k1 k0 h1 h0 => ?_) (hy e _ _ (Pc.Gw.app _))
  obtain ⟨p, hp, rfl⟩ := List.mem_map.mp hd
  have hm := (hc.cn _ (List.mem_map.mpr ⟨p, hp, rfl⟩)).1
  obtain ⟨r, w, e, e2⟩ := Qk19.row_u (n := p.2) (hU _ hm)
  have e' : p.1.map kD = [.str r, .str w] := by
    have : D.tup (p.1.map kD) = .tup [.str r, .str w] := e
    injection this
  have h1' := h1 rfl
  refine ⟨[.tup (p.1.map kD), .int p.2], rfl, rfl, _, rfl, _, rfl, Dl.ll, ?_⟩
  have h1'' : k1 (Fa.rowD (.tup (p.1.map kD), p.2)) (s ++ [none]) := h1'
  rw [e'] at h1'' ⊢
  exact ⟨_, addt Dl.ll, h1''⟩
theorem gk_of {ws rows us : List D} (hB : BookOk 1000 ws rows) (hl : us.length ≤ 500) (hU : ∀ x ∈ us, IsU x) : Gk 1000 ws rows us := ⟨hB, Nat.le_refl _, by omega, hU⟩
theorem pf_worn (h : sp_worn ds s Q E) : b_worn (fun y fs _ s' => E y fs s') (endsOf Q) (envD ["book", "uses", "times", "words", "reading", "writing", "cost", "kind", "less", "row"] ds) s := by
  obtain ⟨b, u, rfl, hb, hu, h1, h2, h3⟩ := h
  refine ⟨_, rfl, b, rfl, hb.sz, h1, fun e1 => ?_⟩
  refine ⟨_, rfl, u, rfl, hu.sz, h2 e1, fun e2 => ?_⟩
  obtain ⟨ws, rows, rfl, hB⟩ := hb.ok e1
  obtain ⟨us, rfl, hl, hU⟩ := hu.ok e2
  have H := Pc.pf_worn _ s Q E ⟨1000, ws, rows, us, rfl, gk_of hB hl hU, fun s' g => h3 e1 e2 _ _ g⟩
  obtain ⟨_, c1, _, c2, _, _, H⟩ := H
  obtain ⟨_, c1, _, c2, _, _, H⟩ := H
  exact H
theorem pf_candidates (h : sp_candidates ds s Q E) : b_candidates (fun y fs _ s' => E y fs s') (endsOf Q) (envD ["book", "uses", "reading", "times", "some", "word"] ds) s := by
  obtain ⟨b, u, r, rfl, hb, hu, hr, h1, h2, h3, h4⟩ := h
  refine ⟨_, rfl, b, rfl, hb.sz, h1, fun e1 => ?_⟩
  refine ⟨_, rfl, u, rfl, hu.sz, h2 e1, fun e2 => ?_⟩
  obtain ⟨ws, rows, rfl, hB⟩ := hb.ok e1
  obtain ⟨us, rfl, hl, hU⟩ := hu.ok e2
  cases e3 : rdF r with
  | false =>
    refine ⟨_, rfl, us, rfl, by omega, hU, fun es hE => ?_⟩
    exact ⟨_, rfl, _, rfl, ws, rows, r, rfl, hB, hr, fun _ => h3 e1 e2 e3 _ (Pc.Gw.app _), fun z ez hz => by
      subst ez
      have : rdF (.str z) = true := by
        show (sgnIn _ z && (decide (1 ≤ (z.length : Int)) && decide ((z.length : Int) ≤ 40))) = true
        rw [hz.s, decide_eq_true (by have := hz.a; omega), decide_eq_true (by have := hz.b; omega)]; rfl
      rw [e3] at this; cases this⟩
  | true =>
    obtain ⟨z, rfl, hz⟩ := hr.ok e3
    have H := Pc.pf_candidates _ s Q E ⟨1000, ws, rows, us, z, rfl, gk_of hB hl hU, hz, fun s' g => h4 e1 e2 e3 _ _ g⟩
    obtain ⟨_, c1, _, c2, _, _, H⟩ := H
    obtain ⟨_, c1, _, c2, _, _, H⟩ := H
    obtain ⟨d, c1, us', c2, x1, x2, H⟩ := H
    refine ⟨d, c1, us', c2, x1, x2, fun es hE => ?_⟩
    obtain ⟨d1, c1, d2, c2, m, ws', rows', r', c3, x3, x4, x5, H⟩ := H es hE
    cases c1; cases c2; cases c3
    exact ⟨_, rfl, _, rfl, ws, rows, .str z, rfl, hB, hr, fun n => (by rw [e3] at n; cases n), fun z' ez hz' L hL => by cases ez; exact H L hL⟩
def tpB : D → Bool
  | .tup _ => true
  | _ => false
theorem isi_tp {n : Nat} {x : D} (h : szB n x = true) {s : Sto} : isiF "tuple" s x = some (.bl (tpB x)) := by
  cases x with
  | frl _ => cases h
  | ref _ => cases h
  | exc _ _ _ => cases h
  | _ => rfl
theorem pf__law_are_uses (h : sp__law_are_uses ds s Q E) : b__law_are_uses (endsOf Q) (envD ["thing", "pair"] ds) s := by
  obtain ⟨x, rfl, hx, q⟩ := h
  cases x with
  | frl _ => cases hx
  | ref _ => cases hx
  | exc _ _ _ => cases hx
  | lst us =>
    obtain ⟨hl, hm⟩ := sz_lst.mp hx
    have q : Q (.bl (us.all isPr)) s := q
    refine ⟨_, rfl, _, rfl, _, rfl, ifF ?_⟩
    dsimp only [dNext]
    refine ⟨_, rfl, _, _, isW_lst, ?_⟩
    refine forD_run (fun rest env s' => ∃ c1, env = [some (.lst us), c1] ∧ s' = s ∧ (∀ d ∈ rest, szB NN d = true) ∧ us.all isPr = rest.all isPr) ?_ ?_ ⟨none, rfl, rfl, hm, rfl⟩
    · rintro d rest env s' ⟨c1, rfl, rfl, hr, ha⟩ N hN
      have hd := hr d List.mem_cons_self
      have hr' : ∀ d ∈ rest, szB NN d = true := fun x hx => hr x (List.mem_cons_of_mem _ hx)
      rw [List.all_cons] at ha
      refine ⟨trivial, ?_⟩
      have no : isPr d = false → Q (.bl false) s' := fun e => by
        rw [e, Bool.false_and] at ha
        rw [ha] at q; exact q
      refine ⟨_, rfl, _, isi_tp hd, _, rfl, ?_⟩
      by_cases ht : ∃ xs, d = .tup xs
      · obtain ⟨xs, rfl⟩ := ht
        refine ifF ⟨_, rfl, _, rfl, _, ne_ii, _, rfl, ?_⟩
        by_cases h2 : ∃ a c, xs = [a, c]
        · obtain ⟨a, c, rfl⟩ := h2
          obtain ⟨_, hm2⟩ := sz_tup.mp hd
          refine ifF ?_
          refine ⟨_, rfl, _, rfl, a, _, 40, rfl, hm2 a List.mem_cons_self, _, rfl, ?_⟩
          have hp : isPr (.tup [a, c]) = (sgnF "abcdefghijklmnopqrstuvwxyz" 40 a && sgnF "ABCDEFGHIJKLMNOPQRSTUVWXYZ" 12 c) := rfl
          cases e1 : sgnF "abcdefghijklmnopqrstuvwxyz" 40 a with
          | false => exact ifT (no (by rw [hp, e1]; rfl))
          | true =>
            refine ifF ?_
            refine ⟨_, rfl, _, rfl, c, _, 12, rfl, hm2 c (List.mem_cons_of_mem _ List.mem_cons_self), _, rfl, ?_⟩
            cases e2 : sgnF "ABCDEFGHIJKLMNOPQRSTUVWXYZ" 12 c with
            | false => exact ifT (no (by rw [hp, e1, e2]; rfl))
            | true =>
              refine ifF (hN _ _ ⟨_, rfl, rfl, hr', ?_⟩)
              rw [ha, hp, e1, e2]; rfl
        · have hp : isPr (.tup xs) = false := by
            unfold isPr
            split
            · rename_i a c e
              cases e
              exact absurd ⟨a, c, rfl⟩ h2
            · rfl
          have hne : ((xs.length : Nat) : Int) ≠ 2 := fun e => by
            match xs, e with
            | [a, c], _ => exact h2 ⟨a, c, rfl⟩
            | [], e => cases e
            | [_], e => cases e
            | _ :: _ :: _ :: _, e => simp at e; omega
          rw [beq_eq_false_iff_ne.mpr hne]
          exact ifT (no hp)
      · have e2 : tpB d = false := by
          cases d <;> first | rfl | exact absurd ⟨_, rfl⟩ ht
        have hp : isPr d = false := by
          cases d <;> first | rfl | exact absurd ⟨_, rfl⟩ ht
        rw [e2]
        exact ifT (no hp)
    · rintro env s' ⟨c1, rfl, rfl, hr, ha⟩
      refine ⟨trivial, ?_⟩
      rw [ha] at q
      exact q
  | _ => exact ⟨_, rfl, _, rfl, _, rfl, ifT q⟩
theorem pf__law_due (h : sp__law_due ds s Q E) : b__law_due (endsOf Q) (envD ["way", "book", "uses", "reading"] ds) s := by
  obtain ⟨way, b, u, r, rfl, hb, hu, hr, q⟩ := h
  unfold dueF at q
  refine ⟨_, rfl, _, rfl, _, rfl, ?_⟩
  have rest : ¬ (0 < way ∧ isBk b = false) → (dSeq (dIfS (dNot (dTest (dCall sp__law_are_uses [] (dCons (dVar 2) dNil)))) (dRet (dC (.str "NoWord"))) dNext)
      (dRet (dIf (dAnd (dTest (dBin (oF eqF) (dVar 0) (dC (.int 2)))) (dNot (dTest (dCall sp_is_reading [] (dCons (dVar 3) dNil))))) (dC (.str "NoReading")) (dC (.str ""))))) (endsOf Q) (envD ["way", "book", "uses", "reading"] [.int way, b, u, r]) s := fun n => by
    rw [if_neg n] at q
    refine ⟨_, rfl, u, rfl, hu, _, rfl, ?_⟩
    cases e : usF u with
    | false => rw [e, if_pos rfl] at q; exact ifT q
    | true =>
      rw [e, if_neg (by decide)] at q
      refine ifF ?_
      refine ⟨_, rfl, _, eq_ii, _, rfl, ?_⟩
      by_cases hw : way = 2
      · subst hw
        refine ifT ⟨_, rfl, r, rfl, hr, _, rfl, ?_⟩
        unfold rdF at q
        cases e3 : sgnF "abcdefghijklmnopqrstuvwxyz" 40 r with
        | false => rw [e3, if_pos ⟨rfl, rfl⟩] at q; exact ifT q
        | true => rw [e3, if_neg (fun z => Bool.noConfusion z.2)] at q; exact ifF q
      · rw [if_neg (fun z => hw z.1)] at q
        rw [beq_eq_false_iff_ne.mpr hw]
        exact ifF (ifF q)
  by_cases hw : 0 < way
  · rw [decide_eq_true hw]
    refine ifT ⟨_, rfl, b, rfl, hb, _, rfl, ?_⟩
    cases e : isBk b with
    | false => rw [e, if_pos ⟨hw, rfl⟩] at q; exact ifT q
    | true => exact ifF (rest fun z => by rw [e] at z; cases z.2)
  · rw [decide_eq_false hw]
    exact ifF (ifF (rest fun z => hw z.1))
theorem iso_x {tab : Str → Option Bool} {b : Bool} {s : Sto} {x : Str} (h : tab x = some b) : isoF tab s (.exc x [] []) = some (.bl b) := by
  show (if ([] : List Str) = [] ∨ ([] : List Str) = [("" : Str)] then (tab x).map D.bl else none) = _
  rw [if_pos (.inl rfl), h]; rfl
def okR : D → Bool
  | .tup [_, .bl b] => b
  | _ => false
def fstR : D → D
  | .tup [a, _] => a
  | d => d
theorem step_row {z : Str} {b : Bool} {e0 e1 : Option D} {s : Sto} {k1 : D → Sto → Prop} {k0 : Sto → Prop} (h1 : b = true → k1 (.str z) s) (h0 : b = false → k0 s) :
    (CT.g (.many [2, 3])) (.tup [.str z, .bl b]) [e0, e1, none, none] s fun env1 s1 => dTest (dVar 3) env1 s1 fun b s2 => if b = true then dVar 2 env1 s2 k1 else k0 s2 := by
  refine ⟨_, rfl, rfl, _, rfl, _, rfl, ?_⟩
  cases b with
  | true => exact ifT ⟨_, rfl, h1 rfl⟩
  | false => exact ifF (h0 rfl)
theorem marks_of {c : D} {b1 b2 b3 b4 b5 b6 b7 b8 b9 b10 : Bool} {z : Str} (h1 : ∀ s, isoF t_NoBook s c = some (.bl b1)) (h2 : ∀ s, isoF t_NoReading s c = some (.bl b2)) (h3 : ∀ s, isoF t_NoPlace s c = some (.bl b3)) (h4 : ∀ s, isoF t_NoWord s c = some (.bl b4)) (h5 : ∀ s, isoF t_NoRow s c = some (.bl b5)) (h6 : ∀ s, isoF t_Stuck s c = some (.bl b6)) (h7 : ∀ s, isoF t_NoNumber s c = some (.bl b7)) (h8 : ∀ s, isoF t_NoState s c = some (.bl b8)) (h9 : ∀ s, isoF t_PenError s c = some (.bl b9)) (h10 : ∀ s, isoF t_ValueError s c = some (.bl b10))
    (e : D.lst ((([.tup [.str "NoBook", .bl b1], .tup [.str "NoReading", .bl b2], .tup [.str "NoPlace", .bl b3], .tup [.str "NoWord", .bl b4], .tup [.str "NoRow", .bl b5], .tup [.str "Stuck", .bl b6], .tup [.str "NoNumber", .bl b7], .tup [.str "NoState", .bl b8], .tup [.str "pen", .bl b9], .tup [.str "value", .bl b10]] : List D).filter okR).map fstR) = mkD z)
    {s : Sto} {Q : D → Sto → Prop} (q : Q (mkD z) s) : b__law_marks (endsOf Q) (envD ["caught", "some", "word", "good"] [c]) s := by
  refine ⟨_, rfl, _, h1 _, Dl.ll, _, rfl, _, h2 _, Dl.ll, Dl.ll, ?_⟩
  refine ⟨_, rfl, _, rfl, _, h3 _, Dl.ll, _, rfl, _, h4 _, Dl.ll, Dl.ll, _, addl Dl.ll, ?_⟩
  refine ⟨_, rfl, _, rfl, _, h5 _, Dl.ll, _, rfl, _, h6 _, Dl.ll, Dl.ll, _, addl Dl.ll, ?_⟩
  refine ⟨_, rfl, _, rfl, _, h7 _, Dl.ll, _, rfl, _, h8 _, Dl.ll, Dl.ll, _, addl Dl.ll, ?_⟩
  refine ⟨_, rfl, _, rfl, _, h9 _, Dl.ll, _, rfl, _, h10 _, Dl.ll, Dl.ll, _, addl Dl.ll, ?_⟩
  refine ⟨_, rfl, _, _, isW_lst, Dl.ll, ?_⟩
  refine lcD_pure okR fstR trivial (fun d hd k1 k0 h1 h0 => ?_) (by rw [← e] at q; exact q)
  have hall : ∀ d ∈ ([.tup [.str "NoBook", .bl b1], .tup [.str "NoReading", .bl b2], .tup [.str "NoPlace", .bl b3], .tup [.str "NoWord", .bl b4], .tup [.str "NoRow", .bl b5], .tup [.str "Stuck", .bl b6], .tup [.str "NoNumber", .bl b7], .tup [.str "NoState", .bl b8], .tup [.str "pen", .bl b9], .tup [.str "value", .bl b10]] : List D), ∃ z b, d = .tup [.str z, .bl b] := by
    intro d hd
    simp only [List.mem_cons, List.not_mem_nil, or_false] at hd
    rcases hd with rfl | rfl | rfl | rfl | rfl | rfl | rfl | rfl | rfl | rfl <;> exact ⟨_, _, rfl⟩
  obtain ⟨z, b, rfl⟩ := hall d hd
  exact step_row (fun e => h1 e) (fun e => h0 e)
theorem pf__law_marks (h : sp__law_marks ds s Q E) : b__law_marks (endsOf Q) (envD ["caught", "some", "word", "good"] ds) s := by
  obtain ⟨z, rfl, hz, q⟩ := h
  rcases hz with rfl | rfl | rfl | rfl
  · exact marks_of (c := .non) (fun _ => rfl) (fun _ => rfl) (fun _ => rfl) (fun _ => rfl) (fun _ => rfl) (fun _ => rfl) (fun _ => rfl) (fun _ => rfl) (fun _ => rfl) (fun _ => rfl) rfl q
  · exact marks_of (c := .exc "NoBook" [] []) (fun _ => iso_x (by decide +kernel : _ = some true)) (fun _ => iso_x (by decide +kernel : _ = some false)) (fun _ => iso_x (by decide +kernel : _ = some false)) (fun _ => iso_x (by decide +kernel : _ = some false)) (fun _ => iso_x (by decide +kernel : _ = some false)) (fun _ => iso_x (by decide +kernel : _ = some false)) (fun _ => iso_x (by decide +kernel : _ = some false)) (fun _ => iso_x (by decide +kernel : _ = some false)) (fun _ => iso_x (by decide +kernel : _ = some true)) (fun _ => iso_x (by decide +kernel : _ = some true)) rfl q
  · exact marks_of (c := .exc "NoWord" [] []) (fun _ => iso_x (by decide +kernel : _ = some false)) (fun _ => iso_x (by decide +kernel : _ = some false)) (fun _ => iso_x (by decide +kernel : _ = some false)) (fun _ => iso_x (by decide +kernel : _ = some true)) (fun _ => iso_x (by decide +kernel : _ = some false)) (fun _ => iso_x (by decide +kernel : _ = some false)) (fun _ => iso_x (by decide +kernel : _ = some false)) (fun _ => iso_x (by decide +kernel : _ = some false)) (fun _ => iso_x (by decide +kernel : _ = some true)) (fun _ => iso_x (by decide +kernel : _ = some true)) rfl q
  · exact marks_of (c := .exc "NoReading" [] []) (fun _ => iso_x (by decide +kernel : _ = some false)) (fun _ => iso_x (by decide +kernel : _ = some true)) (fun _ => iso_x (by decide +kernel : _ = some false)) (fun _ => iso_x (by decide +kernel : _ = some false)) (fun _ => iso_x (by decide +kernel : _ = some false)) (fun _ => iso_x (by decide +kernel : _ = some false)) (fun _ => iso_x (by decide +kernel : _ = some false)) (fun _ => iso_x (by decide +kernel : _ = some false)) (fun _ => iso_x (by decide +kernel : _ = some true)) (fun _ => iso_x (by decide +kernel : _ = some true)) rfl q
theorem pf__law_asked (h : sp__law_asked ds s Q E) : b__law_asked (endsOf Q) (envD ["way", "book", "uses", "reading", "caught", "e"] ds) s := by
  obtain ⟨way, b, u, r, rfl, w0, w1, hb, hu, hr, q⟩ := h
  have fin : ∀ {s' : Sto} {y : Str}, Gw s s' → dueF way b u r = y → (y = "" ∨ y = "NoBook" ∨ y = "NoWord" ∨ y = "NoReading") → (dRet (dCall sp__law_marks [] (dCons (dVar 4) dNil))) (endsOf Q) [some (.int way), some b, some u, some r, some (cgD y), some (cgD y)] s' ∧ (y = "" → (dRet (dCall sp__law_marks [] (dCons (dVar 4) dNil))) (endsOf Q) [some (.int way), some b, some u, some r, some .non, none] s') := fun {s'} {y} g e hy =>
    ⟨⟨_, rfl, y, rfl, hy, by have := q s' g; rw [e] at this; exact this⟩, fun z => ⟨_, rfl, "", rfl, .inl rfl, by have := q s' g; rw [e, z] at this; exact this⟩⟩
  have bad : ∀ {s' : Sto} {y : Str}, Gw s s' → dueF way b u r = y → (y = "NoBook" ∨ y = "NoWord" ∨ y = "NoReading") → ∃ b', hit_PenError y = some b' ∧ (b' = true → (([] : List (Str × D)).map (·.1) ≠ [("" : Str)] ∧ (dAsg (dVar 5) (gN 4)) (goE 5 { nx := (dRet (dCall sp__law_marks [] (dCons (dVar 4) dNil))) (endsOf Q), rt := (endsOf Q).rt, bk := (endsOf Q).bk, ct := (endsOf Q).ct }) ([some (.int way), some b, some u, some r, some .non, some (.exc y [] [])]) s')) ∧ (b' = false → noW y [] [some (.int way), some b, some u, some r, some .non, none] s') := fun {s'} {y} g e hy => by
    have hq : Q (mkD y) s' := by have := q s' g; rw [e] at this; exact this
    have hc : cgD y = .exc y [] [] := by rcases hy with rfl | rfl | rfl <;> rfl
    have hh : hit_PenError y = some true := by rcases hy with rfl | rfl | rfl <;> decide +kernel
    exact ⟨true, hh, fun _ => ⟨by decide, _, rfl, _, rfl, y, by rw [hc]; rfl, .inr hy, hq⟩, fun h => nomatch h⟩
  have good : ∀ {s' : Sto}, Gw s s' → dueF way b u r = "" → (dRet (dCall sp__law_marks [] (dCons (dVar 4) dNil))) (endsOf Q) [some (.int way), some b, some u, some r, some .non, none] s' := fun g e => (fin g e (.inl rfl)).2 rfl
  have dB : 0 < way → isBk b = false → dueF way b u r = "NoBook" := fun h e => if_pos ⟨h, e⟩
  have dU : ¬ (0 < way ∧ isBk b = false) → usF u = false → dueF way b u r = "NoWord" := fun h e => by
    unfold dueF
    rw [if_neg h, if_pos e]
  have dR : way = 2 → isBk b = true → usF u = true → rdF r = false → dueF way b u r = "NoReading" := fun h e e2 e3 => by
    unfold dueF
    rw [if_neg (fun z => by rw [e] at z; cases z.2), if_neg (by rw [e2]; decide), if_pos ⟨h, e3⟩]
  have dO : ¬ (0 < way ∧ isBk b = false) → usF u = true → ¬ (way = 2 ∧ rdF r = false) → dueF way b u r = "" := fun h e e2 => by
    unfold dueF
    rw [if_neg h, if_neg (by rw [e]; decide), if_neg e2]
  refine ⟨_, rfl, _, eq_ii, _, rfl, ?_⟩
  by_cases h0 : way = 0
  · subst h0
    have nb : ¬ ((0 : Int) < 0 ∧ isBk b = false) := fun z => absurd z.1 (by decide)
    refine ifT ⟨_, rfl, u, rfl, hu, fun e => ?_, fun e y s' g => ?_⟩
    · exact bad Gw.refl (dU nb e) (.inr (.inl rfl))
    · exact good g (dO nb e fun z => absurd z.1 (by decide))
  · rw [beq_eq_false_iff_ne.mpr h0]
    refine ifF ⟨_, rfl, _, eq_ii, _, rfl, ?_⟩
    by_cases h1 : way = 1
    · subst h1
      refine ifT ⟨_, rfl, _, rfl, b, u, rfl, hb, hu, fun e => ?_, fun e1 e => ?_, fun e1 e y s' g => ?_⟩
      · exact bad Gw.refl (dB (by decide) e) (.inl rfl)
      · exact bad Gw.refl (dU (fun z => by rw [e1] at z; cases z.2) e) (.inr (.inl rfl))
      · exact good g (dO (fun z => by rw [e1] at z; cases z.2) e fun z => absurd z.1 (by decide))
    · have h2 : way = 2 := by omega
      subst h2
      refine ifF ⟨_, rfl, _, rfl, _, rfl, b, u, r, rfl, hb, hu, hr, fun e => ?_, fun e1 e => ?_, fun e1 e2 e s' g => ?_, fun e1 e2 e y s' g => ?_⟩
      · exact bad Gw.refl (dB (by decide) e) (.inl rfl)
      · exact bad Gw.refl (dU (fun z => by rw [e1] at z; cases z.2) e) (.inr (.inl rfl))
      · exact bad g (dR rfl e1 e2 e) (.inr (.inr rfl))
      · exact good g (dO (fun z => by rw [e1] at z; cases z.2) e2 fun z => by rw [e] at z; cases z.2)
end
end Qk24
namespace Qk24
open PySem PySem.Spec PyProof.Rows L2 Dl Bk
open Fa (IsU isPr Rdg Wof TimesOk StT ifD ifB ifT ifF two three sp_times_of sp_is_pair sp__law_dip sp__law_text sp__law_book sp__law_reading sp__law_uses sp__law_signs strL strL_length fapp StT.up StT.len StT.app IsU.pr IsU.sz)
open Fb (gd gd_all gd_tup gd_lst)
open Pc (Gk bkD candL Gw Gw.refl)
def r6 : SD := (dSeq (dAsg (dCB reprEF (dCons (dLst (dCons (dVar 1) (dCons (dVar 3) (dCons (dVar 2) dNil)))) dNil)) (gN 4))
  (dSeq (dFor (iR1 (dCons (dC (.int 3)) dNil)) (gN 5) (dSeq (dAsg (dCall sp__law_due [] (dCons (dVar 5) (dCons (dVar 1) (dCons (dVar 3) (dCons (dVar 2) dNil))))) (gN 7))
  (dIfS (dTest (dBin (oF neF) (dCall sp__law_asked [] (dCons (dVar 5) (dCons (dVar 1) (dCons (dVar 3) (dCons (dVar 2) dNil))))) (dBin (oF idxF) (dLst (dCons (dLst (dCons (dVar 7) (dCons (dC (.str "pen")) (dCons (dC (.str "value")) dNil)))) (dCons (dLst dNil) dNil))) (dCB intF (dCons (dBin (oF eqF) (dVar 7) (dC (.str ""))) dNil))))) (dRet (dC (.bl false))) dNext)))
  (dRet (dBin (oF eqF) (dCB reprEF (dCons (dLst (dCons (dVar 1) (dCons (dVar 3) (dCons (dVar 2) dNil)))) dNil)) (dVar 4)))))
def r5 : SD := (dSeq (dIfS (dTest (dBin (oF eqF) (dCall sp__law_dip [] (dCons (dVar 0) (dCons (dC (.int 4)) dNil))) (dC (.int 0)))) (dAsg (dBin (oF idxF) (dLst (dCons (dCall sp__law_bent [] (dCons (dVar 0) (dCons (dVar 2) (dCons (dC (.int 0)) dNil)))) (dCons (dBin oMul (dVar 2) (dC (.int 41))) (dCons (dC (.str "")) dNil)))) (dCall sp__law_dip [] (dCons (dVar 0) (dCons (dC (.int 3)) dNil)))) (gN 2)) dNext)
  (dSeq (dAsg (dCB reprEF (dCons (dLst (dCons (dVar 1) (dCons (dVar 3) (dCons (dVar 2) dNil)))) dNil)) (gN 4))
  (dSeq (dFor (iR1 (dCons (dC (.int 3)) dNil)) (gN 5) (dSeq (dAsg (dCall sp__law_due [] (dCons (dVar 5) (dCons (dVar 1) (dCons (dVar 3) (dCons (dVar 2) dNil))))) (gN 7))
  (dIfS (dTest (dBin (oF neF) (dCall sp__law_asked [] (dCons (dVar 5) (dCons (dVar 1) (dCons (dVar 3) (dCons (dVar 2) dNil))))) (dBin (oF idxF) (dLst (dCons (dLst (dCons (dVar 7) (dCons (dC (.str "pen")) (dCons (dC (.str "value")) dNil)))) (dCons (dLst dNil) dNil))) (dCB intF (dCons (dBin (oF eqF) (dVar 7) (dC (.str ""))) dNil))))) (dRet (dC (.bl false))) dNext)))
  (dRet (dBin (oF eqF) (dCB reprEF (dCons (dLst (dCons (dVar 1) (dCons (dVar 3) (dCons (dVar 2) dNil)))) dNil)) (dVar 4))))))
def r4 : SD := (dSeq (dIfS (dTest (dBin (oF eqF) (dCall sp__law_dip [] (dCons (dVar 0) (dCons (dC (.int 2)) dNil))) (dC (.int 0)))) (dSeq (dAsg (dLst (dCons (dTup (dCons (dVar 2) (dCons (dVar 2) dNil))) (dCons (dTup (dCons (dVar 2) (dCons (dC (.str "A")) (dCons (dC (.int 1)) dNil)))) (dCons (dLst (dCons (dVar 2) (dCons (dC (.str "A")) dNil))) dNil)))) (gN 6))
  (dSeq (dAsg (dBin (oF addF) (dVar 6) (dLst (dCons (dTup (dCons (dVar 2) (dCons (dBin oMul (dC (.str "A")) (dC (.int 13))) dNil))) (dCons (dTup (dCons (dC (.str "A")) (dCons (dC (.str "A")) dNil))) (dCons (dTup (dCons (dC (.str "")) (dCons (dC (.str "A")) dNil))) dNil))))) (gN 6))
  (dAsg (dBin (oF idxF) (dLst (dCons (dBin (oF addF) (dVar 3) (dLst (dCons (dBin (oF idxF) (dVar 6) (dCall sp__law_dip [] (dCons (dVar 0) (dCons (dC (.int 6)) dNil)))) dNil))) (dCons (dCall sp__law_bent [] (dCons (dVar 0) (dCons (dVar 3) (dCons (dC (.int 2)) dNil)))) dNil))) (dCall sp__law_dip [] (dCons (dVar 0) (dCons (dC (.int 2)) dNil)))) (gN 3)))) dNext)
  (dSeq (dIfS (dTest (dBin (oF eqF) (dCall sp__law_dip [] (dCons (dVar 0) (dCons (dC (.int 4)) dNil))) (dC (.int 0)))) (dAsg (dBin (oF idxF) (dLst (dCons (dCall sp__law_bent [] (dCons (dVar 0) (dCons (dVar 2) (dCons (dC (.int 0)) dNil)))) (dCons (dBin oMul (dVar 2) (dC (.int 41))) (dCons (dC (.str "")) dNil)))) (dCall sp__law_dip [] (dCons (dVar 0) (dCons (dC (.int 3)) dNil)))) (gN 2)) dNext)
  (dSeq (dAsg (dCB reprEF (dCons (dLst (dCons (dVar 1) (dCons (dVar 3) (dCons (dVar 2) dNil)))) dNil)) (gN 4))
  (dSeq (dFor (iR1 (dCons (dC (.int 3)) dNil)) (gN 5) (dSeq (dAsg (dCall sp__law_due [] (dCons (dVar 5) (dCons (dVar 1) (dCons (dVar 3) (dCons (dVar 2) dNil))))) (gN 7))
  (dIfS (dTest (dBin (oF neF) (dCall sp__law_asked [] (dCons (dVar 5) (dCons (dVar 1) (dCons (dVar 3) (dCons (dVar 2) dNil))))) (dBin (oF idxF) (dLst (dCons (dLst (dCons (dVar 7) (dCons (dC (.str "pen")) (dCons (dC (.str "value")) dNil)))) (dCons (dLst dNil) dNil))) (dCB intF (dCons (dBin (oF eqF) (dVar 7) (dC (.str ""))) dNil))))) (dRet (dC (.bl false))) dNext)))
  (dRet (dBin (oF eqF) (dCB reprEF (dCons (dLst (dCons (dVar 1) (dCons (dVar 3) (dCons (dVar 2) dNil)))) dNil)) (dVar 4)))))))
def r3 : SD := (dSeq (dIfS (dTest (dBin (oF eqF) (dCall sp__law_dip [] (dCons (dVar 0) (dCons (dC (.int 4)) dNil))) (dC (.int 0)))) (dAsg (dCall sp__law_bent [] (dCons (dVar 0) (dCons (dVar 1) (dCons (dC (.int 3)) dNil)))) (gN 1)) dNext)
  (dSeq (dIfS (dTest (dBin (oF eqF) (dCall sp__law_dip [] (dCons (dVar 0) (dCons (dC (.int 2)) dNil))) (dC (.int 0)))) (dSeq (dAsg (dLst (dCons (dTup (dCons (dVar 2) (dCons (dVar 2) dNil))) (dCons (dTup (dCons (dVar 2) (dCons (dC (.str "A")) (dCons (dC (.int 1)) dNil)))) (dCons (dLst (dCons (dVar 2) (dCons (dC (.str "A")) dNil))) dNil)))) (gN 6))
  (dSeq (dAsg (dBin (oF addF) (dVar 6) (dLst (dCons (dTup (dCons (dVar 2) (dCons (dBin oMul (dC (.str "A")) (dC (.int 13))) dNil))) (dCons (dTup (dCons (dC (.str "A")) (dCons (dC (.str "A")) dNil))) (dCons (dTup (dCons (dC (.str "")) (dCons (dC (.str "A")) dNil))) dNil))))) (gN 6))
  (dAsg (dBin (oF idxF) (dLst (dCons (dBin (oF addF) (dVar 3) (dLst (dCons (dBin (oF idxF) (dVar 6) (dCall sp__law_dip [] (dCons (dVar 0) (dCons (dC (.int 6)) dNil)))) dNil))) (dCons (dCall sp__law_bent [] (dCons (dVar 0) (dCons (dVar 3) (dCons (dC (.int 2)) dNil)))) dNil))) (dCall sp__law_dip [] (dCons (dVar 0) (dCons (dC (.int 2)) dNil)))) (gN 3)))) dNext)
  (dSeq (dIfS (dTest (dBin (oF eqF) (dCall sp__law_dip [] (dCons (dVar 0) (dCons (dC (.int 4)) dNil))) (dC (.int 0)))) (dAsg (dBin (oF idxF) (dLst (dCons (dCall sp__law_bent [] (dCons (dVar 0) (dCons (dVar 2) (dCons (dC (.int 0)) dNil)))) (dCons (dBin oMul (dVar 2) (dC (.int 41))) (dCons (dC (.str "")) dNil)))) (dCall sp__law_dip [] (dCons (dVar 0) (dCons (dC (.int 3)) dNil)))) (gN 2)) dNext)
  (dSeq (dAsg (dCB reprEF (dCons (dLst (dCons (dVar 1) (dCons (dVar 3) (dCons (dVar 2) dNil)))) dNil)) (gN 4))
  (dSeq (dFor (iR1 (dCons (dC (.int 3)) dNil)) (gN 5) (dSeq (dAsg (dCall sp__law_due [] (dCons (dVar 5) (dCons (dVar 1) (dCons (dVar 3) (dCons (dVar 2) dNil))))) (gN 7))
  (dIfS (dTest (dBin (oF neF) (dCall sp__law_asked [] (dCons (dVar 5) (dCons (dVar 1) (dCons (dVar 3) (dCons (dVar 2) dNil))))) (dBin (oF idxF) (dLst (dCons (dLst (dCons (dVar 7) (dCons (dC (.str "pen")) (dCons (dC (.str "value")) dNil)))) (dCons (dLst dNil) dNil))) (dCB intF (dCons (dBin (oF eqF) (dVar 7) (dC (.str ""))) dNil))))) (dRet (dC (.bl false))) dNext)))
  (dRet (dBin (oF eqF) (dCB reprEF (dCons (dLst (dCons (dVar 1) (dCons (dVar 3) (dCons (dVar 2) dNil)))) dNil)) (dVar 4))))))))
theorem right_r3 : b__law_right = (dSeq (dAsg (dCall sp__law_book [] (dCons (dVar 0) (dCons (dC (.int 12)) dNil))) (gN 1))
  (dSeq (dAsg (dCall sp__law_reading [] (dCons (dVar 0) (dCons (dVar 1) dNil))) (gN 2))
  (dSeq (dAsg (dCall sp__law_uses [] (dCons (dVar 0) (dCons (dVar 1) (dCons (dC (.int 40)) dNil)))) (gN 3)) r3))) := rfl
theorem st_of24 {b : Int} {tl s s' : Sto} (S : StT b tl s) (hl : 2 ≤ s'.length) (h0 : s'[0]? = s[0]?) (h1 : s'[1]? = s[1]?) : ∃ tl', StT b tl' s' := by
  obtain ⟨xs, st, n, rfl, r⟩ := S
  match s', hl with
  | x :: y :: tl', _ =>
    have e0 : some x = _ := h0
    have e1 : some y = _ := h1
    cases e0; cases e1
    exact ⟨tl', xs, st, n, rfl, r⟩
theorem st_gw {b : Int} {tl s s' : Sto} (S : StT b tl s) (g : Gw s s') : ∃ tl', StT b tl' s' := st_of24 S (by have := S.len; have := g.1; omega) (g.2 0 (by have := S.len; omega)) (g.2 1 (by have := S.len; omega))
theorem mulS_ok {s : Sto} {a : Str} {n : Int} (h : n.toNat * a.length ≤ 100000 ∧ a.length ≤ 100000 ∧ -1000000 ≤ n ∧ n ≤ 1000000) : mulS s (.str a) (.int n) = some (.str (repS a n.toNat)) := if_pos h
theorem rep_chs {a : Str} (h : Fb.chs a = true) (n : Nat) : Fb.chs (repS a n) = true := Fb.chs_of fun c hc => by
  have hc : c ∈ (List.replicate n a.cps.toList).flatten := by
    have e : (repS a n).cps.toList = (List.replicate n a.cps.toList).flatten := by unfold repS; simp
    rw [e] at hc; exact hc
  obtain ⟨l, hl, hc⟩ := List.mem_flatten.mp hc
  rw [List.eq_of_mem_replicate hl] at hc
  exact Fb.of_chs h c hc
theorem fa {P : D → Prop} {x : D} {xs : List D} (h : P x) (t : ∀ y ∈ xs, P y) : ∀ y ∈ x :: xs, P y := List.forall_mem_cons.mpr ⟨h, t⟩
theorem fn {P : D → Prop} : ∀ y ∈ ([] : List D), P y := fun _ h => nomatch h
structure Gp (n w d : Nat) (x : D) : Prop where
  g : Fh.Gd n w d x
  p : Fh.pn x = true
theorem Gp.up {n w d n' w' d' : Nat} {x : D} (h : Gp n w d x) (h1 : n ≤ n') (h2 : w ≤ w') (h3 : d ≤ d') : Gp n' w' d' x := ⟨h.g.up h1 h2 h3, h.p⟩
theorem Gp.str {n : Nat} {z : Str} (h : z.length ≤ n) (hc : Fb.chs z = true) : Gp n n 0 (.str z) := ⟨Fh.Gd.str h hc, rfl⟩
theorem Gp.int {n : Nat} {i : Int} (h0 : 0 ≤ i) (h1 : i ≤ 1000000000000) : Gp n 0 0 (.int i) := ⟨Fh.Gd.int (by have : (1000000000000 : Nat) ≤ 10 ^ 20 := by decide
                                                                                                               omega) h1, decide_eq_true h0⟩
theorem Gp.tup {n w d m : Nat} {xs : List D} (h : ∀ x ∈ xs, Gp n w d x) (hl : xs.length ≤ m) (hm : m ≤ n - 31) : Gp n ((w + 1) * m) (d + 1) (.tup xs) :=
  ⟨⟨Fb.Gd.tup (fun x hx => (h x hx).g.f) hl (by omega), Fh.umL_iff.mpr fun x hx => (h x hx).g.u, Fh.ls_tup.mpr ⟨by omega, fun x hx => (h x hx).g.l⟩⟩, Fh.pnL_iff.mpr fun x hx => (h x hx).p⟩
theorem Gp.lst {n w d m : Nat} {xs : List D} (h : ∀ x ∈ xs, Gp n w d x) (hl : xs.length ≤ m) (hm : m ≤ n - 31) : Gp n ((w + 1) * m) (d + 1) (.lst xs) :=
  ⟨⟨Fb.Gd.lst (fun x hx => (h x hx).g.f) hl (by omega), Fh.umL_iff.mpr fun x hx => (h x hx).g.u, Fh.ls_lst.mpr ⟨by omega, fun x hx => (h x hx).g.l⟩⟩, Fh.pnL_iff.mpr fun x hx => (h x hx).p⟩
theorem gp_az {z : Str} {n : Nat} (h : sgnIn "abcdefghijklmnopqrstuvwxyz" z = true) (hl : z.length ≤ 40) (hn : 40 ≤ n) : Gp n 40 0 (.str z) := ⟨(Fh.Gd.str (n := 40) hl (Fb.chs_sgn (by decide +kernel) h)).up hn (Nat.le_refl _) (Nat.le_refl _), rfl⟩
theorem gp_AZ {z : Str} {n : Nat} (h : sgnIn "ABCDEFGHIJKLMNOPQRSTUVWXYZ" z = true) (hl : z.length ≤ 40) (hn : 40 ≤ n) : Gp n 40 0 (.str z) := ⟨(Fh.Gd.str (n := 40) hl (Fb.chs_sgn (by decide +kernel) h)).up hn (Nat.le_refl _) (Nat.le_refl _), rfl⟩
theorem gp_book {ws rows : List D} (hB : BookOk 12 ws rows) (hr : rows.length ≤ 9) : Gp 50 3000 3 (bkD ws rows) := by
  have hwl := hB.wl
  have gw : ∀ w ∈ ws, Gp 50 164 1 w := fun w hw => by
    obtain ⟨r, z, c, k, rfl, ok⟩ := hB.ww w hw
    have h1 := ok.c1; have h2 := ok.c2; have h3 := ok.k1; have h4 := ok.k2
    exact (Gp.tup (n := 50) (w := 40) (d := 0) (m := 4) (fa (gp_az ok.r1 ok.r3 (by decide)) (fa (gp_AZ ok.w1 (by have := ok.w3; omega) (by decide)) (fa ((Gp.int h1 h2).up (Nat.le_refl _) (by decide) (by decide)) (fa ((Gp.int h3 (by omega)).up (Nat.le_refl _) (by decide) (by decide)) fn)))) (Nat.le_refl 4) (by decide))
  have gr : ∀ r ∈ rows, Gp 50 9 1 r := fun r hr2 => by
    obtain ⟨js, rfl, hl, hj⟩ := hB.rr r hr2
    exact (Gp.lst (n := 50) (w := 0) (d := 0) (m := 9) (fun y hy => by
      obtain ⟨j, hj2, rfl⟩ := List.mem_map.mp hy
      exact Gp.int (hj j hj2).1 (hj j hj2).2) (by rw [List.length_map]; omega) (by decide))
  have g1 : Gp 50 1980 2 (.lst ws) := Gp.lst (m := 12) gw hwl (by decide)
  have g2 : Gp 50 90 2 (.lst rows) := Gp.lst (m := 9) gr hr (by decide)
  refine ⟨⟨?_, Fh.umL_iff.mpr (fa g1.g.u (fa g2.g.u fn)), Fh.ls_tup.mpr ⟨by show 2 ≤ 19; decide, fa g1.g.l (fa g2.g.l fn)⟩⟩, Fh.pnL_iff.mpr (fa g1.p (fa g2.p fn))⟩
  refine Fb.Gd.rowT (n := 50) (w := 1980) (d := 2) (fa g1.g.f (fa (g2.g.f.up (Nat.le_refl _) (by decide) (Nat.le_refl _)) fn)) (by show 2 ≤ 50; decide) ?_
  have h1 := g1.g.f.w; have h2 := g2.g.f.w
  rw [Fb.bk_cons, Fb.bk_cons, Fb.bk_nil]
  omega
theorem gp_uses {us : List D} (hl : us.length ≤ 200) (hU : ∀ x ∈ us, IsU x) : Gp 240 16600 2 (.lst us) := by
  refine (Gp.lst (n := 240) (w := 82) (d := 1) (m := 200) (fun u hu => ?_) hl (by decide)).up (Nat.le_refl _) (by decide) (Nat.le_refl _)
  obtain ⟨r, w, rfl, h1, h2⟩ := hU u hu
  exact (Gp.tup (n := 240) (w := 40) (d := 0) (m := 2) (fa (gp_az h1.1 h1.2.2 (by decide)) (fa (gp_AZ h2.1 (by have := h2.2.2; omega) (by decide)) fn)) (Nat.le_refl 2) (by decide))
section
variable (Q : D → Sto → Prop)
theorem pf_r6 {bx ux rx : D} {e6 : Option D} {nb nu nr : Nat} {s : Sto} {b : Int} {tl : Sto} (gb : Fh.Gd 51 6200 11 bx) (gu : Fh.Gd 241 33400 10 ux) (gr : Fh.Gd 2000 2000 10 rx) (S : StT b tl s) (q : ∀ tl' s', StT b tl' s' → Q (.bl true) s') : r6 (endsOf Q) [some (.ref 1), some bx, some rx, some ux, none, none, e6, none] s := by
  have hrp : ∀ s : Sto, reprEF s [.lst [bx, ux, rx]] = some (.str (rpE (.lst [bx, ux, rx]))) := fun s => by
    have g : Fb.Gd 2000 100203 12 (.lst [bx, ux, rx]) := Fb.Gd.lst (n := 2000) (w := 33400) (d := 11) (m := 3) (fa (gb.f.up (by decide) (by decide) (by decide)) (fa (gu.f.up (by decide) (by decide) (by decide)) (fa (gr.f.up (by decide) (by decide) (by decide)) fn))) (Nat.le_refl 3) (by decide)
    show (if rpOkE _ = true then some (D.str (rpE _)) else none) = _
    rw [if_pos (g.rp (by decide) (by decide) (by decide))]
  have sb := gd_sz gb (by decide); have su := gd_sz gu (by decide); have sr := gd_sz gr (by decide)
  refine ⟨_, rfl, _, rfl, _, rfl, Dl.ll, _, hrp _, ?_⟩
  refine ⟨3, rfl, by decide, by decide, ?_⟩
  refine forD_run (fun rest env s' => ∃ (c5 c7 : Option D) (tl' : Sto), (∀ d ∈ rest, ∃ i : Int, d = .int i ∧ 0 ≤ i ∧ i < 3) ∧ env = [some (.ref 1), some bx, some rx, some ux, some (.str (rpE (.lst [bx, ux, rx]))), c5, e6, c7] ∧ StT b tl' s') ?_ ?_ ?_
  · rintro d rest env s' ⟨c5, c7, tl', hr, rfl, S'⟩ N hN
    obtain ⟨i, rfl, i0, i1⟩ := hr d List.mem_cons_self
    refine ⟨trivial, ?_⟩
    refine ⟨_, rfl, _, rfl, _, rfl, _, rfl, i, bx, ux, rx, rfl, sb, su, sr, ?_⟩
    refine ⟨_, rfl, _, rfl, _, rfl, _, rfl, i, bx, ux, rx, rfl, i0, i1, bkx_of gb (by decide), usx_of gu (by decide), rdx_of gr (by decide), fun s2 g2 => ?_⟩
    obtain ⟨tl2, S2⟩ := st_gw S' g2
    have hd : dueF i bx ux rx = "" ∨ dueF i bx ux rx = "NoBook" ∨ dueF i bx ux rx = "NoWord" ∨ dueF i bx ux rx = "NoReading" := by
      unfold dueF
      split
      · exact .inr (.inl rfl)
      · split
        · exact .inr (.inr (.inl rfl))
        · split
          · exact .inr (.inr (.inr rfl))
          · exact .inl rfl
    have go := hN [some (.ref 1), some bx, some rx, some ux, some (.str (rpE (.lst [bx, ux, rx]))), some (.int i), e6, some (.str (dueF i bx ux rx))] s2 ⟨_, _, tl2, fun d h => hr d (List.mem_cons_of_mem _ h), rfl, S2⟩
    revert go
    rcases hd with h | h | h | h <;> rw [h] <;> intro go <;> exact ⟨_, rfl, Dl.ll, Dl.ll, Dl.ll, _, rfl, _, rfl, _, rfl, _, rfl, _, rfl, _, rfl, ifF go⟩
  · rintro env s' ⟨c5, c7, tl', hr, rfl, S'⟩
    refine ⟨trivial, ?_⟩
    refine ⟨_, rfl, _, rfl, _, rfl, Dl.ll, _, hrp _, _, rfl, _, eq_ss, ?_⟩
    rw [beq_self_eq_true]
    exact q _ _ S'
  · refine ⟨none, none, tl, fun d hd => ?_, rfl, S⟩
    unfold rangeD at hd
    obtain ⟨k, hk, rfl⟩ := List.mem_map.mp hd
    have := List.mem_range.mp hk
    exact ⟨_, rfl, by omega, by have : k < 3 := this; omega⟩
theorem pf_r5 {bx ux : D} {z : Str} {e6 : Option D} {s : Sto} {b : Int} {tl : Sto} (gb : Fh.Gd 51 6200 11 bx) (gu : Fh.Gd 241 33400 10 ux) (hz : sgnIn "abcdefghijklmnopqrstuvwxyz" z = true) (hz1 : 1 ≤ z.length) (hz2 : z.length ≤ 40) (S : StT b tl s) (hb : b ≤ 55000000) (q : ∀ tl' s', StT (b + 100) tl' s' → Q (.bl true) s') : r5 (endsOf Q) [some (.ref 1), some bx, some (.str z), some ux, none, none, e6, none] s := by
  have gz := gp_az (n := 50) hz hz2 (by decide)
  have hzc : Fb.chs z = true := Fb.chs_sgn (by decide +kernel) hz
  refine ⟨_, rfl, b, tl, 4, rfl, S, by omega, by decide, by decide, fun i s1 i0 i1 S1 => ⟨_, eq_ii, _, rfl, ?_⟩⟩
  by_cases h0 : i = 0
  · rw [beq_iff_eq.mpr h0]
    refine ifT ?_
    refine ⟨_, rfl, _, rfl, b + 1, tl, 50, 40, 0, .str z, 0, rfl, by decide, ⟨gz.g, gz.p⟩, by decide, by decide, S1, by omega, fun x s2 hx S2 => ?_⟩
    refine ⟨_, rfl, .inr ⟨_, mulS_ok ⟨by show 41 * z.length ≤ _; omega, by omega, by decide, by decide⟩, Dl.ll, ?_⟩⟩
    refine ⟨_, rfl, _, tl, 3, rfl, S2, by omega, by decide, by decide, fun j s3 j0 j1 S3 => ?_⟩
    obtain ⟨y, hy, my⟩ := atI_mem (xs := [x, D.str (repS z (41 : Int).toNat), .str ""]) j0 (by simpa using j1)
    refine ⟨_, hy, ?_⟩
    have gy : Fh.Gd 2000 2000 10 y := by
      rcases (by simpa using my : y = x ∨ y = D.str (repS z (41 : Int).toNat) ∨ y = .str "") with rfl | rfl | rfl
      · exact hx.up (by decide) (by decide) (by decide)
      · exact (Fh.Gd.str (n := 1640) (by rw [repS_length]; show 41 * z.length ≤ _; omega) (rep_chs hzc _)).up (by decide) (by decide) (by decide)
      · exact (Fh.Gd.str (n := 0) (by decide) (by decide +kernel)).up (by decide) (by decide) (by decide)
    exact pf_r6 Q (nb := 0) (nu := 0) (nr := 0) gb gu gy (S3.up (c := b + 100) (by omega)) q
  · rw [beq_eq_false_iff_ne.mpr h0]
    refine ifF ?_
    exact pf_r6 Q (nb := 0) (nu := 0) (nr := 0) gb gu (gz.g.up (by decide) (by decide) (by decide)) (S1.up (c := b + 100) (by omega)) q
theorem pf_r4 {bx : D} {z : Str} {us : List D} {s : Sto} {b : Int} {tl : Sto} (gb : Fh.Gd 51 6200 11 bx) (hl : us.length ≤ 200) (hU : ∀ x ∈ us, IsU x) (hz : sgnIn "abcdefghijklmnopqrstuvwxyz" z = true) (hz1 : 1 ≤ z.length) (hz2 : z.length ≤ 40) (S : StT b tl s) (hb : b ≤ 54000000) (q : ∀ tl' s', StT (b + 200) tl' s' → Q (.bl true) s') : r4 (endsOf Q) [some (.ref 1), some bx, some (.str z), some (.lst us), none, none, none, none] s := by
  have gz := gp_az (n := 240) hz hz2 (by decide)
  have gus := gp_uses hl hU
  refine ⟨_, rfl, b, tl, 2, rfl, S, by omega, by decide, by decide, fun i s1 i0 i1 S1 => ⟨_, eq_ii, _, rfl, ?_⟩⟩
  by_cases h0 : i = 0
  · rw [beq_iff_eq.mpr h0]
    refine ifT ?_
    refine ⟨_, rfl, _, rfl, Dl.ll, _, rfl, Dl.ll, _, rfl, Dl.ll, Dl.ll, ?_⟩
    refine ⟨_, rfl, _, rfl, .inr ⟨_, mulS_ok (by decide), Dl.ll, Dl.ll, Dl.ll, Dl.ll, _, addl Dl.ll, ?_⟩⟩
    have gA : ∀ (w : Str), (Fb.chs w && decide (w.length ≤ 40)) = true → Gp 240 40 0 (.str w) := fun w h => by
      rw [Bool.and_eq_true, decide_eq_true_iff] at h
      exact (Gp.str (n := 40) h.2 h.1).up (by decide) (Nat.le_refl _) (Nat.le_refl _)
    have g1 : Gp 240 40 0 (.int 1) := (Gp.int (by decide) (by decide)).up (Nat.le_refl _) (by decide) (Nat.le_refl _)
    refine ⟨_, rfl, _, rfl, _, rfl, _, tl, 6, rfl, S1, by omega, by decide, by decide, fun j s2 j0 j1 S2 => ?_⟩
    obtain ⟨y, hy, my⟩ := atI_mem (xs := [D.tup [.str z, .str z], .tup [.str z, .str "A", .int 1], .lst [.str z, .str "A"], .tup [.str z, .str (repS "A" (13 : Int).toNat)], .tup [.str "A", .str "A"], .tup [.str "", .str "A"]]) j0 (by simpa using j1)
    have gy : Gp 240 123 1 y := by
      rcases (by simpa using my : y = D.tup [.str z, .str z] ∨ y = .tup [.str z, .str "A", .int 1] ∨ y = .lst [.str z, .str "A"] ∨ y = .tup [.str z, .str (repS "A" (13 : Int).toNat)] ∨ y = .tup [.str "A", .str "A"] ∨ y = .tup [.str "", .str "A"]) with rfl | rfl | rfl | rfl | rfl | rfl
      · exact (Gp.tup (m := 2) (fa gz (fa gz fn)) (Nat.le_refl 2) (by decide)).up (Nat.le_refl _) (by decide) (Nat.le_refl _)
      · exact (Gp.tup (m := 3) (fa gz (fa (gA "A" (by decide +kernel)) (fa g1 fn))) (Nat.le_refl 3) (by decide)).up (Nat.le_refl _) (by decide) (Nat.le_refl _)
      · exact (Gp.lst (m := 2) (fa gz (fa (gA "A" (by decide +kernel)) fn)) (Nat.le_refl 2) (by decide)).up (Nat.le_refl _) (by decide) (Nat.le_refl _)
      · exact (Gp.tup (m := 2) (fa gz (fa (gA _ (by decide +kernel)) fn)) (Nat.le_refl 2) (by decide)).up (Nat.le_refl _) (by decide) (Nat.le_refl _)
      · exact (Gp.tup (m := 2) (fa (gA "A" (by decide +kernel)) (fa (gA "A" (by decide +kernel)) fn)) (Nat.le_refl 2) (by decide)).up (Nat.le_refl _) (by decide) (Nat.le_refl _)
      · exact (Gp.tup (m := 2) (fa (gA "" (by decide +kernel)) (fa (gA "A" (by decide +kernel)) fn)) (Nat.le_refl 2) (by decide)).up (Nat.le_refl _) (by decide) (Nat.le_refl _)
    refine ⟨_, hy, Dl.ll, _, addl (le_line (by show us.length + 1 ≤ _; omega)), ?_⟩
    refine ⟨_, rfl, _, rfl, _, tl, 240, 16600, 2, .lst us, 2, rfl, by decide, ⟨gus.g, gus.p⟩, by decide, by decide, S2, by omega, fun x s3 hx S3 => ⟨Dl.ll, ?_⟩⟩
    refine ⟨_, rfl, _, tl, 2, rfl, S3, by omega, by decide, by decide, fun k s4 k0 k1 S4 => ?_⟩
    obtain ⟨u, hu, mu⟩ := two (a := D.lst (us ++ [y])) (b := x) k0 k1
    refine ⟨_, hu, ?_⟩
    have gu : Fh.Gd 241 33400 10 u := by
      rcases mu with rfl | rfl
      · refine ((Gp.lst (n := 241) (w := 123) (d := 1) (m := 201) (fun v hv => ?_) (by rw [List.length_append]; show us.length + 1 ≤ 201; omega) (by decide)).up (Nat.le_refl _) (by decide) (by decide)).g
        rcases List.mem_append.mp hv with hv | hv
        · obtain ⟨r, w, rfl, h1, h2⟩ := hU v hv
          exact (Gp.tup (n := 241) (w := 40) (d := 0) (m := 2) (fa (gp_az h1.1 h1.2.2 (by decide)) (fa (gp_AZ h2.1 (by have := h2.2.2; omega) (by decide)) fn)) (Nat.le_refl 2) (by decide)).up (Nat.le_refl _) (by decide) (Nat.le_refl _)
        · rw [List.mem_singleton.mp hv]; exact gy.up (by decide) (Nat.le_refl _) (Nat.le_refl _)
      · exact hx.up (by decide) (by decide) (by decide)
    exact pf_r5 Q gb gu hz hz1 hz2 (S4.up (c := b + 100) (by omega)) (by omega) fun tl' s' S' => q tl' s' (S'.up (by omega))
  · rw [beq_eq_false_iff_ne.mpr h0]
    refine ifF ?_
    exact pf_r5 Q gb (gus.g.up (by decide) (by decide) (by decide)) hz hz1 hz2 (S1.up (c := b + 100) (by omega)) (by omega) fun tl' s' S' => q tl' s' (S'.up (by omega))
theorem pf_r3 {ws rows : List D} {z : Str} {us : List D} {s : Sto} {b : Int} {tl : Sto} (hB : BookOk 12 ws rows) (hr : rows.length ≤ 9) (hl : us.length ≤ 200) (hU : ∀ x ∈ us, IsU x) (hz : sgnIn "abcdefghijklmnopqrstuvwxyz" z = true) (hz1 : 1 ≤ z.length) (hz2 : z.length ≤ 40) (S : StT b tl s) (hb : b ≤ 53000000) (q : ∀ tl' s', StT (b + 300) tl' s' → Q (.bl true) s') : r3 (endsOf Q) [some (.ref 1), some (bkD ws rows), some (.str z), some (.lst us), none, none, none, none] s := by
  have gbk := gp_book hB hr
  refine ⟨_, rfl, b, tl, 4, rfl, S, by omega, by decide, by decide, fun i s1 i0 i1 S1 => ⟨_, eq_ii, _, rfl, ?_⟩⟩
  by_cases h0 : i = 0
  · rw [beq_iff_eq.mpr h0]
    refine ifT ?_
    refine ⟨_, rfl, _, rfl, _, tl, 50, 3000, 3, bkD ws rows, 3, rfl, by decide, ⟨gbk.g, gbk.p⟩, by decide, by decide, S1, by omega, fun x s3 hx S3 => ?_⟩
    exact pf_r4 Q (hx.up (by decide) (by decide) (by decide)) hl hU hz hz1 hz2 (S3.up (c := b + 100) (by omega)) (by omega) fun tl' s' S' => q tl' s' (S'.up (by omega))
  · rw [beq_eq_false_iff_ne.mpr h0]
    refine ifF ?_
    exact pf_r4 Q (gbk.g.up (by decide) (by decide) (by decide)) hl hU hz hz1 hz2 (S1.up (c := b + 100) (by omega)) (by omega) fun tl' s' S' => q tl' s' (S'.up (by omega))
end
section
variable (ds : List D) (s : Sto) (Q : D → Sto → Prop) (E : XD)
theorem pf__law_right (h : sp__law_right ds s Q E) : b__law_right (endsOf Q) (envD ["pot", "book", "reading", "uses", "kept", "way", "odd", "due"] ds) s := by
  obtain ⟨b, tl, rfl, S, hb, q⟩ := h
  rw [right_r3]
  refine ⟨_, rfl, b, tl, 12, rfl, S, by omega, by decide, by decide, fun ws rows u1 s1 hB hr S1 => ?_⟩
  have hwl := hB.wl
  have hB : BookOk 12 ws rows := hB
  refine ⟨_, rfl, _, rfl, _, _, _, ws, .lst rows, rfl, hB.ww, by have := hB.wl; omega, S1, by omega, fun z s2 z1 z2 z3 S2 => ?_⟩
  refine ⟨_, rfl, _, rfl, _, _, 40, 12, ws, rows, rfl, S2, by omega, by decide, by decide, hB, by decide, fun us u3 s3 hl hU S3 => ?_⟩
  exact pf_r3 Q hB hr hl hU z1 z2 z3 S3 (by omega) fun tl' s' S' => q tl' s' (S'.up (by omega))
theorem pf_law (h : spLaw ds s Q E) : b_law (endsOf Q) (envD ["script", "pot", "k", "text"] ds) s := by
  obtain ⟨ns, rfl, hn, hb, rfl, q⟩ := h
  refine ⟨_, rfl, ns, rfl, hn, hb, rfl, fun s1 S1 => ?_⟩
  have hc : (cutD (ns.map D.int) none (some 8)).length ≤ 8 := by
    rw [cutD_to (by decide), List.length_take]; omega
  have hr : ∀ a n, (rangeD a n).length = n := fun a n => by simp [rangeD]
  refine ⟨_, rfl, _, rfl, _, rfl, _, rfl, .inl ⟨_, _, rfl, rfl, IntMulOk.of_right (intBits_le_iff.mpr (by omega)), _, rfl, _, rfl, by omega, by omega, ?_⟩⟩
  refine forD_run (fun rest env s => ∃ (e2 : Option D) (tl : Sto), rest.length ≤ 27 ∧ env = [some (.frl (ns.map .int)), some (.ref 1), e2, none] ∧ StT (1100000 * (27 - rest.length)) tl s) ?_ ?_ ⟨none, _, by rw [hr]; omega, rfl, S1.up (by rw [hr]; omega)⟩
  · rintro d rest env s ⟨e2, tl, hl, rfl, S⟩ N hN
    rw [List.length_cons] at hl S
    refine ⟨trivial, ?_⟩
    refine ⟨_, rfl, _, tl, rfl, S, by omega, fun tl' s' S' => ⟨_, rfl, ifF ?_⟩⟩
    exact hN _ _ ⟨_, tl', by omega, rfl, S'.up (by push_cast; omega)⟩
  · rintro env s ⟨e2, tl, hl, rfl, S⟩
    refine ⟨trivial, ?_⟩
    rw [List.length_nil] at S
    refine ⟨_, rfl, _, tl, "ab c", 9, rfl, S, by omega, by decide, by decide, by decide, by decide, fun l s2 l1 l2 l3 S2 => ?_⟩
    refine ⟨_, rfl, _, rfl, _, rfl, _, rfl, _, eq_ss, ?_⟩
    rw [beq_self_eq_true]
    exact q _
end
end Qk24
namespace Qk24
open PySem PySem.Spec PyProof.Rows L2 Dl
open Bk Fh
open Fa hiding sp__law_odd sp__law_bent_end sp__law_bentN b__law_odd b__law_bent_end b__law_bent mono__law_odd len__law_odd mono__law_bent_end len__law_bent_end mono__law_bent len__law_bent bent_lt2 bent_in bent_int pf__law_bent_end bent_out bent_seq pf__law_bent0 pf__law_bentS pf__law_odd odds_ok sp_need_uses mono_need_uses len_need_uses pf_need_uses b_need_uses sp_need_reading mono_need_reading len_need_reading pf_need_reading b_need_reading sp_words_of mono_words_of len_words_of b_words_of pf_words_of sp_candidates mono_candidates len_candidates b_candidates pf_candidates
theorem kn__law_bent {P : Program} {w : World} {K : PySem.W.Frag} {mg : Str → Option Value} {base : Heap} (T : Tx K mg) (a : At K mg "_law_bent" s__law_bent ["pot", "thing", "deep"]) (c__law_dip : Kn P w K mg base "_law_dip" 1 ["pot", "many"] sp__law_dip) (c__law_bent_end : Kn P w K mg base "_law_bent_end" 3 ["pot", "thing"] sp__law_bent_end) : Kn P w K mg base "_law_bent" 7 ["pot", "thing", "deep"] sp__law_bent :=
  have h0 : Kn P w K mg base "_law_bent" 4 ["pot", "thing", "deep"] (sp__law_bentN 0) := Kn.mk a sc__law_bent mono__law_bent len__law_bent (d__law_bent T c__law_dip c__law_bent_end (Nat.le_refl _) (Kn.up (Kn.no a sc__law_bent) (by decide))) pf__law_bent0
  have h1 : Kn P w K mg base "_law_bent" 5 ["pot", "thing", "deep"] (sp__law_bentN 1) := Kn.mk a sc__law_bent mono__law_bent len__law_bent (d__law_bent T c__law_dip c__law_bent_end (by decide) h0) fun ds s Q E h => pf__law_bentS ds s Q E 0 h
  have h2 : Kn P w K mg base "_law_bent" 6 ["pot", "thing", "deep"] (sp__law_bentN 2) := Kn.mk a sc__law_bent mono__law_bent len__law_bent (d__law_bent T c__law_dip c__law_bent_end (by decide) h1) fun ds s Q E h => pf__law_bentS ds s Q E 1 h
  have h3 : Kn P w K mg base "_law_bent" 7 ["pot", "thing", "deep"] (sp__law_bentN 3) := Kn.mk a sc__law_bent mono__law_bent len__law_bent (d__law_bent T c__law_dip c__law_bent_end (by decide) h2) fun ds s Q E h => pf__law_bentS ds s Q E 2 h
  h3
theorem all_mk : AllMk := by
  intro P w K h mg fa X G hfa f28 od28 an28 sl28 oc28 kV28 dc28 pm28 cd28 ct28 f29 od29 an29 sl29 oc29 kV29 dc29 pm29 cd29 ct29 f33 od33 an33 sl33 oc33 kV33 dc33 pm33 cd33 ct33 t_LARGE t_LONGEST t_MOST t_SMALL t_WEAR t_WORN C_NoBook C_NoNumber C_NoPlace C_NoReading C_NoRow C_NoState C_NoWord C_PenError C_Stuck h1 h2 h3 h4 h5 h6 h7 h8 h9 h10 h11 h12 h13 h14 h15 h16 h17 h18 h19 h20 h21 h22 h23 h24 h25 h26 h27 a28 l28 q28 k28 m28 a29 l29 q29 k29 m29 h30 h31 h32 a33 l33 q33 k33 z_ValueError z_abs z_all z_bool z_int z_isinstance z_len z_list z_max z_min z_range z_repr z_sorted z_str z_tuple y_LARGE y_LONGEST y_MOST y_SMALL y_WEAR y_WORN y_NoBook y_NoNumber y_NoPlace y_NoReading y_NoRow y_NoState y_NoWord y_PenError y_Stuck q_NoBook q_NoReading q_NoWord vs_NoWord ex_NoBook ex_NoReading ex_NoWord g1_NoBook g2_NoBook v_NoBook g1_NoNumber g2_NoNumber v_NoNumber g1_NoPlace g2_NoPlace v_NoPlace g1_NoReading g2_NoReading v_NoReading g1_NoRow g2_NoRow v_NoRow g1_NoState g2_NoState v_NoState g1_NoWord g2_NoWord v_NoWord g1_PenError g2_PenError v_PenError g1_Stuck g2_Stuck v_Stuck v_ValueError w_PenError
  have nxs : NXs K kN [C_NoBook, C_NoReading, C_NoWord] := .cons y_NoBook (.cons y_NoReading (.cons y_NoWord (.nil)))
  have ixs : IXs K kN [C_NoBook, C_NoReading, C_NoWord] := .cons y_NoBook ex_NoBook (.cons y_NoReading ex_NoReading (.cons y_NoWord ex_NoWord (.nil)))
  have iso_NoBook : IsoX K (.ref C_NoBook) t_NoBook := isoX_own g1_NoBook g2_NoBook (iso_all ixs v_NoBook)
  have iso_NoNumber : IsoX K (.ref C_NoNumber) t_NoNumber := isoX_own g1_NoNumber g2_NoNumber (iso_all ixs v_NoNumber)
  have iso_NoPlace : IsoX K (.ref C_NoPlace) t_NoPlace := isoX_own g1_NoPlace g2_NoPlace (iso_all ixs v_NoPlace)
  have iso_NoReading : IsoX K (.ref C_NoReading) t_NoReading := isoX_own g1_NoReading g2_NoReading (iso_all ixs v_NoReading)
  have iso_NoRow : IsoX K (.ref C_NoRow) t_NoRow := isoX_own g1_NoRow g2_NoRow (iso_all ixs v_NoRow)
  have iso_NoState : IsoX K (.ref C_NoState) t_NoState := isoX_own g1_NoState g2_NoState (iso_all ixs v_NoState)
  have iso_NoWord : IsoX K (.ref C_NoWord) t_NoWord := isoX_own g1_NoWord g2_NoWord (iso_all ixs v_NoWord)
  have iso_PenError : IsoX K (.ref C_PenError) t_PenError := isoX_own g1_PenError g2_PenError (iso_all ixs v_PenError)
  have iso_Stuck : IsoX K (.ref C_Stuck) t_Stuck := isoX_own g1_Stuck g2_Stuck (iso_all ixs v_Stuck)
  have iso_ValueError : IsoX K (.type "ValueError") t_ValueError := isoX_VE (iso_all ixs v_ValueError)
  have hit_ok_PenError : HitX K mg "PenError" (.ref C_PenError) hit_PenError := hit_all X G (PySem.W.mg_of X G y_PenError) nxs w_PenError
  have T : Tx K mg := ⟨q_NoBook.own X G y_NoBook, q_NoReading.own X G y_NoReading, q_NoWord.own X G y_NoWord, ⟨_, PySem.W.mg_of X G y_NoBook, iso_NoBook⟩, ⟨_, PySem.W.mg_of X G y_NoNumber, iso_NoNumber⟩, ⟨_, PySem.W.mg_of X G y_NoPlace, iso_NoPlace⟩, ⟨_, PySem.W.mg_of X G y_NoReading, iso_NoReading⟩, ⟨_, PySem.W.mg_of X G y_NoRow, iso_NoRow⟩, ⟨_, PySem.W.mg_of X G y_NoState, iso_NoState⟩, ⟨_, PySem.W.mg_of X G y_NoWord, iso_NoWord⟩, ⟨_, PySem.W.mg_of X G y_PenError, iso_PenError⟩, ⟨_, PySem.W.mg_of X G y_Stuck, iso_Stuck⟩, iso_ValueError, ⟨_, hit_ok_PenError⟩, ownV_mk q_NoWord X G y_NoWord vs_NoWord, .cons y_NoWord vs_NoWord q_NoWord.2.2.1 (.nil), PySem.W.mg_none_of X G z_ValueError, PySem.W.mg_none_of X G z_abs, PySem.W.mg_none_of X G z_all, PySem.W.mg_none_of X G z_bool, PySem.W.mg_none_of X G z_int, PySem.W.mg_none_of X G z_isinstance, PySem.W.mg_none_of X G z_len, PySem.W.mg_none_of X G z_list, PySem.W.mg_none_of X G z_max, PySem.W.mg_none_of X G z_min, PySem.W.mg_none_of X G z_range, PySem.W.mg_none_of X G z_repr, PySem.W.mg_none_of X G z_sorted, PySem.W.mg_none_of X G z_str, PySem.W.mg_none_of X G z_tuple, ⟨_, PySem.W.mg_of X G y_LARGE⟩, ⟨_, PySem.W.mg_of X G y_LONGEST⟩, ⟨_, PySem.W.mg_of X G y_MOST⟩, ⟨_, PySem.W.mg_of X G y_SMALL⟩, ⟨_, PySem.W.mg_of X G y_WEAR⟩, ⟨_, PySem.W.mg_of X G y_WORN⟩⟩
  have F28 := fun_mk (st := s_words_of) l28 q28 k28
  have F29 := fun_mk (st := s_candidates) l29 q29 k29
  have F33 := fun_mk (st := s_law) l33 q33 k33
  have at_law : At K mg "law" s_law ["script"] := ⟨_, _, F33, PySem.W.mg_of X G a33, F33.binds (ps := ["script"]) fun _ _ _ _ _ _ us hl => match us, hl with | [_], _ => rfl⟩
  have e := hfa.symm.trans (PySem.W.mg_of X G a33)
  cases e
  refine ⟨PySem.W.fnOf "law" "law" (defArgs s_law) (defBody s_law) (defScope s_law) .none kV33 dc33 pm33 an33 cd33 ct33, fun s v => .of_eq rfl, fun base _ _ TB => ?_⟩
  have at_words_of : AtL K mg base "words_of" s_words_of ["book", "reading"] := ⟨_, _, F28, PySem.W.mg_of X G a28, F28.binds (ps := ["book", "reading"]) (fun _ _ _ _ _ _ us hl => match us, hl with | [_, _], _ => rfl), lamAt_mk2 TB (by decide) a28 l28 m28⟩
  have at_candidates : AtL K mg base "candidates" s_candidates ["book", "uses", "reading"] := ⟨_, _, F29, PySem.W.mg_of X G a29, F29.binds (ps := ["book", "uses", "reading"]) (fun _ _ _ _ _ _ us hl => match us, hl with | [_, _, _], _ => rfl), lamAt_mk2 TB (by decide) a29 l29 m29⟩
  have c__law_pot : Kn P w K mg base "_law_pot" 1 ["script"] sp__law_pot := Kn.mk (h1.at X G fun _ _ _ _ _ _ us hl => match us, hl with | [_], _ => rfl) sc__law_pot mono__law_pot len__law_pot (d__law_pot T) pf__law_pot
  have c__law_dip : Kn P w K mg base "_law_dip" 1 ["pot", "many"] sp__law_dip := Kn.mk (h2.at X G fun _ _ _ _ _ _ us hl => match us, hl with | [_, _], _ => rfl) sc__law_dip mono__law_dip len__law_dip (d__law_dip T) pf__law_dip
  have c__law_cost : Kn P w K mg base "_law_cost" 2 ["pot"] sp__law_cost := Kn.mk (h3.at X G fun _ _ _ _ _ _ us hl => match us, hl with | [_], _ => rfl) sc__law_cost mono__law_cost len__law_cost (d__law_cost T c__law_dip) pf__law_cost
  have c__law_text : Kn P w K mg base "_law_text" 2 ["pot", "signs", "most"] sp__law_text := Kn.mk (h4.at X G fun _ _ _ _ _ _ us hl => match us, hl with | [_, _, _], _ => rfl) sc__law_text mono__law_text len__law_text (d__law_text T c__law_dip) pf__law_text
  have c__law_book : Kn P w K mg base "_law_book" 3 ["pot", "most"] sp__law_book := Kn.mk (h5.at X G fun _ _ _ _ _ _ us hl => match us, hl with | [_, _], _ => rfl) sc__law_book mono__law_book len__law_book (d__law_book T c__law_dip c__law_cost c__law_text) pf__law_book
  have c__law_reading : Kn P w K mg base "_law_reading" 2 ["pot", "book"] sp__law_reading := Kn.mk (h6.at X G fun _ _ _ _ _ _ us hl => match us, hl with | [_, _], _ => rfl) sc__law_reading mono__law_reading len__law_reading (d__law_reading T c__law_dip) pf__law_reading
  have c__law_uses : Kn P w K mg base "_law_uses" 3 ["pot", "book", "most"] sp__law_uses := Kn.mk (h7.at X G fun _ _ _ _ _ _ us hl => match us, hl with | [_, _, _], _ => rfl) sc__law_uses mono__law_uses len__law_uses (d__law_uses T c__law_dip c__law_text) pf__law_uses
  have c__law_odd : Kn P w K mg base "_law_odd" 2 ["pot"] sp__law_odd := Kn.mk (h8.at X G fun _ _ _ _ _ _ us hl => match us, hl with | [_], _ => rfl) sc__law_odd mono__law_odd len__law_odd (d__law_odd T c__law_dip) pf__law_odd
  have c__law_bent_end : Kn P w K mg base "_law_bent_end" 3 ["pot", "thing"] sp__law_bent_end := Kn.mk (h9.at X G fun _ _ _ _ _ _ us hl => match us, hl with | [_, _], _ => rfl) sc__law_bent_end mono__law_bent_end len__law_bent_end (d__law_bent_end T c__law_dip c__law_odd) pf__law_bent_end
  have c__law_bent : Kn P w K mg base "_law_bent" 7 ["pot", "thing", "deep"] sp__law_bent := kn__law_bent T (h10.at X G fun _ _ _ _ _ _ us hl => match us, hl with | [_, _, _], _ => rfl) c__law_dip c__law_bent_end
  have c_is_small : Kn P w K mg base "is_small" 1 ["thing"] sp_is_small := Kn.mk (h11.at X G fun _ _ _ _ _ _ us hl => match us, hl with | [_], _ => rfl) sc_is_small mono_is_small len_is_small (d_is_small T) pf_is_small
  have c_is_reading : Kn P w K mg base "is_reading" 2 ["thing"] sp_is_reading := Kn.mk (h12.at X G fun _ _ _ _ _ _ us hl => match us, hl with | [_], _ => rfl) sc_is_reading mono_is_reading len_is_reading (d_is_reading T c_is_small) pf_is_reading
  have c_is_writing : Kn P w K mg base "is_writing" 1 ["thing"] sp_is_writing := Kn.mk (h13.at X G fun _ _ _ _ _ _ us hl => match us, hl with | [_], _ => rfl) sc_is_writing mono_is_writing len_is_writing (d_is_writing T) pf_is_writing
  have c_is_count : Kn P w K mg base "is_count" 1 ["thing"] sp_is_count := Kn.mk (h14.at X G fun _ _ _ _ _ _ us hl => match us, hl with | [_], _ => rfl) sc_is_count mono_is_count len_is_count (d_is_count T) pf_is_count
  have c_is_word : Kn P w K mg base "is_word" 3 ["thing"] sp_is_word := Kn.mk (h15.at X G fun _ _ _ _ _ _ us hl => match us, hl with | [_], _ => rfl) sc_is_word mono_is_word len_is_word (d_is_word T c_is_reading c_is_writing c_is_count) pf_is_word
  have c_are_joins : Kn P w K mg base "are_joins" 2 ["thing"] sp_are_joins := Kn.mk (h16.at X G fun _ _ _ _ _ _ us hl => match us, hl with | [_], _ => rfl) sc_are_joins mono_are_joins len_are_joins (d_are_joins T c_is_count) pf_are_joins
  have c_is_book : Kn P w K mg base "is_book" 4 ["thing"] sp_is_book := Kn.mk (h17.at X G fun _ _ _ _ _ _ us hl => match us, hl with | [_], _ => rfl) sc_is_book mono_is_book len_is_book (d_is_book T c_is_word c_are_joins) pf_is_book
  have c__law_signs : Kn P w K mg base "_law_signs" 1 ["thing", "signs", "most"] sp__law_signs := Kn.mk (h18.at X G fun _ _ _ _ _ _ us hl => match us, hl with | [_, _, _], _ => rfl) sc__law_signs mono__law_signs len__law_signs (d__law_signs T) pf__law_signs
  have c__law_are_uses : Kn P w K mg base "_law_are_uses" 2 ["thing"] sp__law_are_uses := Kn.mk (h19.at X G fun _ _ _ _ _ _ us hl => match us, hl with | [_], _ => rfl) sc__law_are_uses mono__law_are_uses len__law_are_uses (d__law_are_uses T c__law_signs) pf__law_are_uses
  have c__law_due : Kn P w K mg base "_law_due" 5 ["way", "book", "uses", "reading"] sp__law_due := Kn.mk (h20.at X G fun _ _ _ _ _ _ us hl => match us, hl with | [_, _, _, _], _ => rfl) sc__law_due mono__law_due len__law_due (d__law_due T c_is_reading c_is_book c__law_are_uses) pf__law_due
  have c_is_pair : Kn P w K mg base "is_pair" 3 ["thing"] sp_is_pair := Kn.mk (h21.at X G fun _ _ _ _ _ _ us hl => match us, hl with | [_], _ => rfl) sc_is_pair mono_is_pair len_is_pair (d_is_pair T c_is_reading c_is_writing) pf_is_pair
  have c_need_uses : KnX P w K mg base "need_uses" 4 ["thing"] sp_need_uses := KnX.mk (h22.at X G fun _ _ _ _ _ _ us hl => match us, hl with | [_], _ => rfl) sc_need_uses mono_need_uses len_need_uses (d_need_uses T c_is_pair) pf_need_uses
  have c_times_of : Kn P w K mg base "times_of" 1 ["uses"] sp_times_of := Kn.mk (h23.at X G fun _ _ _ _ _ _ us hl => match us, hl with | [_], _ => rfl) sc_times_of mono_times_of len_times_of (d_times_of T) pf_times_of
  have c_counted : KnX P w K mg base "counted" 5 ["uses"] sp_counted := KnX.mk (h24.at X G fun _ _ _ _ _ _ us hl => match us, hl with | [_], _ => rfl) sc_counted mono_counted len_counted (d_counted T c_need_uses c_times_of) pf_counted
  have c_need_book : KnX P w K mg base "need_book" 5 ["thing"] sp_need_book := KnX.mk (h25.at X G fun _ _ _ _ _ _ us hl => match us, hl with | [_], _ => rfl) sc_need_book mono_need_book len_need_book (d_need_book T c_is_book) pf_need_book
  have c_worn : KnX P w K mg base "worn" 6 ["book", "uses"] sp_worn := KnX.mk (h26.at X G fun _ _ _ _ _ _ us hl => match us, hl with | [_, _], _ => rfl) sc_worn mono_worn len_worn (d_worn T c_need_uses c_times_of c_need_book) pf_worn
  have c_need_reading : KnX P w K mg base "need_reading" 3 ["thing"] sp_need_reading := KnX.mk (h27.at X G fun _ _ _ _ _ _ us hl => match us, hl with | [_], _ => rfl) sc_need_reading mono_need_reading len_need_reading (d_need_reading T c_is_reading) pf_need_reading
  have c_words_of : KnX P w K mg base "words_of" 6 ["book", "reading"] sp_words_of := KnX.mkL at_words_of sc_words_of mono_words_of len_words_of (d_words_of T c_need_book c_need_reading) pf_words_of
  have c_candidates : KnX P w K mg base "candidates" 7 ["book", "uses", "reading"] sp_candidates := KnX.mkL at_candidates sc_candidates mono_candidates len_candidates (d_candidates T c_need_uses c_times_of c_need_book c_words_of) pf_candidates
  have c__law_marks : Kn P w K mg base "_law_marks" 1 ["caught"] sp__law_marks := Kn.mk (h30.at X G fun _ _ _ _ _ _ us hl => match us, hl with | [_], _ => rfl) sc__law_marks mono__law_marks len__law_marks (d__law_marks T) pf__law_marks
  have c__law_asked : Kn P w K mg base "_law_asked" 8 ["way", "book", "uses", "reading"] sp__law_asked := Kn.mk (h31.at X G fun _ _ _ _ _ _ us hl => match us, hl with | [_, _, _, _], _ => rfl) sc__law_asked mono__law_asked len__law_asked (d__law_asked T c_counted c_worn c_candidates c__law_marks) pf__law_asked
  have c__law_right : Kn P w K mg base "_law_right" 9 ["pot"] sp__law_right := Kn.mk (h32.at X G fun _ _ _ _ _ _ us hl => match us, hl with | [_], _ => rfl) sc__law_right mono__law_right len__law_right (d__law_right T c__law_dip c__law_book c__law_reading c__law_uses c__law_bent c__law_due c__law_asked) pf__law_right
  exact fnD F33 sc_law mono_spLaw (len_spLaw rfl) (d_law T c__law_pot c__law_text c__law_right _) pf_law
end Qk24
theorem PySem.Challenge.cw_asshown_k24_uses_refused_holds : PySem.Challenge.rw_asshown_k24_uses_refused.Holds :=
  Qk24.fin Qk24.all_mk
