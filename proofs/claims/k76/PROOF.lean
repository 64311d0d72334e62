import PyProof.Rows.All
import Wide.All
import OpenK.AllK
import Wide.FinOn
import HandS.ForMost
import HandS.TupAny
import HandS.TupMul
import HandS.IsInst
import HandS.DictComp
import HandS.Conv
import KE.KDictKeyed
import KE.KDictWalk
import HandS.Style
import HandS.Zip
import HandS.Deep
import KE.GoesMore
import HandS.SetFor
import HandS.Strs
import KE.GoesZip
import PySem.Challenge.RW_rowwalkers_k76_whole_words_parted
set_option Elab.async false
set_option linter.all false
set_option maxRecDepth 100000
set_option maxHeartbeats 4000000
/-! D1: values as data (tuples by value), the heap of what changes, and the lifted judgements. -/
namespace DL
open PySem PySem.Spec PyProof.Rows L2

/-- a value as data: a tuple by its items; a list, a dict, an instance by where it stands -/
inductive D where
  | non | bl (b : Bool) | int (i : Int) | str (x : Str) | ref (a : Addr) | tup (ds : List D) | rol (ds : List D) | ty (n : String) | rng (lo hi : Int) | rod (ks vs : List D) | obj (C : Addr) (ns : List Str) (vs : List D)

/-- what stands where a thing changes -/
inductive DO where
  | lst (ds : List D) | dct (kvs : List (D × D)) | ins (C : Addr) (fs : List (Str × D)) | ldc (kvs : List (D × D)) | absl (Φ : List D → Prop) | absd (Φ : List (D × D) → Prop)

abbrev DH := Addr → Option DO
def put (h : DH) (a : Addr) (o : DO) : DH := fun b => if b = a then some o else h b
theorem put_same {h : DH} {a : Addr} {o : DO} : put h a o a = some o := by unfold put; rw [if_pos rfl]
theorem put_ne {h : DH} {a b : Addr} {o : DO} (e : b ≠ a) : put h a o b = h b := by unfold put; rw [if_neg e]

abbrev DSt := List (Option D)
abbrev DK := D → DH → Prop
abbrev DTE := DSt → DH → DK → Prop
abbrev DTT := DSt → DH → (Bool → DH → Prop) → Prop
abbrev DTA := DSt → DH → (List D → DH → Prop) → Prop

/-- a list that never changes: locked, or of the written part -/
def SqF (K : PySem.W.Frag) (H : Hp) (a : Addr) (xs : List V) : Prop :=
  (∃ o, H a = some (.frz o (.lst xs))) ∨
    ∃ (o : Obj) (its : Array Value) (n : Nat), K.lookup a = some o ∧ o.cls = .type "list" ∧ o.dict = none ∧ o.data = .seq its n ∧ its.size ≤ sizeLine ∧ Vals xs its.toList
theorem SqF.sq {K : PySem.W.Frag} {H : Hp} {a : Addr} {xs : List V} (h : SqF K H a xs) : SqL K H a xs := by
  rcases h with ⟨o, e⟩ | h
  · exact .inl (.inr ⟨o, e⟩)
  · exact .inr h

/-! ### keys of dicts -/
mutual
/-- what a key is, where it is one (flags are none: they would be numbers) -/
def keyOf : D → Option NestedKey
  | .non => some .none
  | .int i => some (.num i)
  | .str x => some (.text x)
  | .tup ds => (keysOf ds).map .tup
  | _ => none
def keysOf : List D → Option (List NestedKey)
  | [] => some []
  | d :: ds => (keyOf d).bind fun k => (keysOf ds).map fun ks => k :: ks
end
/-- the dict object at a with these entries -/
def isDict (w : World) (a : Addr) (xs : List (NestedKey × Value × Value)) : Heap → Prop := fun h =>
  ∃ o es ep, h.get? a = some o ∧ o.ExactDict ∧ o.data = .dict es ep ∧ es.toList = xs.map fun x => (⟨x.1.hash w, x.2.1, x.2.2⟩ : DictEntry)
/-- the entries of a dict by its keys and values, as machine values -/
def EntsOf : List D → List V → List V → List (NestedKey × Value × Value) → Prop
  | [], us, ws, xs => us = [] ∧ ws = [] ∧ xs = []
  | k :: ks, us, ws, xs => ∃ u ur v vr x xr, us = u :: ur ∧ ws = v :: vr ∧ xs = x :: xr ∧ keyOf k = some x.1 ∧ x.1.depth ≤ 7 ∧ RelV u x.2.1 ∧ RelV v x.2.2 ∧ EntsOf ks ur vr xr

mutual
def RD (K : PySem.W.Frag) (w : World) (H : Hp) : D → V → Prop
  | .non, v => v = .non
  | .bl b, v => v = .bl b
  | .int i, v => v = .int i
  | .str x, v => v = .str x
  | .ref a, v => v = .ref a
  | .ty n, v => v = .ty n
  | .rng lo hi, v => ∃ a, v = .ref a ∧ H a = some (.rng lo hi)
  | .tup ds, v => ∃ a vs, v = .ref a ∧ SqT K H a vs ∧ RDs K w H ds vs
  | .rol ds, v => ∃ a vs, v = .ref a ∧ SqF K H a vs ∧ RDs K w H ds vs
  | .rod ks ws, v => ∃ a o xs us vs, v = .ref a ∧ H a = some (.frz o (.ext (isDict w a xs))) ∧ (a == sysModules) = false ∧ ks.length ≤ sizeLine ∧ (xs.map (·.1)).Nodup ∧ EntsOf ks us vs xs ∧ RDs K w H ks us ∧ RDs K w H ws vs
  | .obj C ns ws, v => ∃ a o dx us, v = .ref a ∧ H a = some (.frz o (.ins C dx (ns.zip us))) ∧ ns.length = us.length ∧ RDs K w H ws us
def RDs (K : PySem.W.Frag) (w : World) (H : Hp) : List D → List V → Prop
  | [], vs => vs = []
  | d :: ds, vs => ∃ v r, vs = v :: r ∧ RD K w H d v ∧ RDs K w H ds r
end

/-- tuples, locked things and ranges stay -/
def Keeps (H H' : Hp) : Prop := (∀ b xs, H b = some (.tup xs) → H' b = some (.tup xs)) ∧ (∀ b o u, H b = some (.frz o u) → H' b = some (.frz o u)) ∧ ∀ b lo hi, H b = some (.rng lo hi) → H' b = some (.rng lo hi)
theorem Keeps.refl (H : Hp) : Keeps H H := ⟨fun _ _ e => e, fun _ _ _ e => e, fun _ _ _ e => e⟩
theorem Keeps.trans {H H1 H2 : Hp} (a : Keeps H H1) (b : Keeps H1 H2) : Keeps H H2 := ⟨fun c xs e => b.1 c xs (a.1 c xs e), fun c o u e => b.2.1 c o u (a.2.1 c o u e), fun c o u e => b.2.2 c o u (a.2.2 c o u e)⟩
theorem Keeps.new {H : Hp} {a : Addr} {o : HO} (n : H a = none) : Keeps H (upd H a o) := ⟨fun b xs e => by rw [upd_ne (ne_of_none e n)]; exact e, fun b z u e => by rw [upd_ne (ne_of_none e n)]; exact e, fun b z u e => by rw [upd_ne (ne_of_none e n)]; exact e⟩
/-- what may be written over -/
def Soft : HO → Prop
  | .tup _ => False
  | .frz _ _ => False
  | .rng _ _ => False
  | _ => True
theorem Keeps.over {H : Hp} {a : Addr} {o o' : HO} (e : H a = some o) (s : Soft o) : Keeps H (upd H a o') := by
  refine ⟨fun b xs q => ?_, fun b z u q => ?_, fun b z u q => ?_⟩
  · by_cases hb : b = a
    · subst hb; rw [e] at q; cases q; exact s.elim
    · rw [upd_ne hb]; exact q
  · by_cases hb : b = a
    · subst hb; rw [e] at q; cases q; exact s.elim
    · rw [upd_ne hb]; exact q
  · by_cases hb : b = a
    · subst hb; rw [e] at q; cases q; exact s.elim
    · rw [upd_ne hb]; exact q
theorem SqT.keep {K : PySem.W.Frag} {H H' : Hp} {a : Addr} {xs : List V} (k : Keeps H H') (h : SqT K H a xs) : SqT K H' a xs := by
  rcases h with (h | ⟨o, h⟩) | h
  · exact .inl (.inl (k.1 _ _ h))
  · exact .inl (.inr ⟨o, k.2.1 _ _ _ h⟩)
  · exact .inr h
theorem SqF.keep {K : PySem.W.Frag} {H H' : Hp} {a : Addr} {xs : List V} (k : Keeps H H') (h : SqF K H a xs) : SqF K H' a xs := by
  rcases h with ⟨o, h⟩ | h
  · exact .inl ⟨o, k.2.1 _ _ _ h⟩
  · exact .inr h
section
variable {K : PySem.W.Frag} {w : World} {H H' : Hp}
mutual
theorem RD.keep (k : Keeps H H') : ∀ (d : D) (v : V), RD K w H d v → RD K w H' d v
  | .non, _, h => h
  | .bl _, _, h => h
  | .int _, _, h => h
  | .str _, _, h => h
  | .ref _, _, h => h
  | .ty _, _, h => h
  | .rng _ _, _, ⟨a, e, h⟩ => ⟨a, e, k.2.2 _ _ _ h⟩
  | .tup ds, _, ⟨a, vs, e, s, r⟩ => ⟨a, vs, e, SqT.keep k s, RDs.keep k ds vs r⟩
  | .rol ds, _, ⟨a, vs, e, s, r⟩ => ⟨a, vs, e, SqF.keep k s, RDs.keep k ds vs r⟩
  | .rod ks ws, _, ⟨a, o, xs, us, vs, e, q, s1, s2, s3, s4, r1, r2⟩ => ⟨a, o, xs, us, vs, e, k.2.1 _ _ _ q, s1, s2, s3, s4, RDs.keep k ks us r1, RDs.keep k ws vs r2⟩
  | .obj C ns ws, _, ⟨a, o, dx, us, e, q, s1, r1⟩ => ⟨a, o, dx, us, e, k.2.1 _ _ _ q, s1, RDs.keep k ws us r1⟩
theorem RDs.keep (k : Keeps H H') : ∀ (ds : List D) (vs : List V), RDs K w H ds vs → RDs K w H' ds vs
  | [], _, h => h
  | d :: ds, _, ⟨v, r, e, h1, h2⟩ => ⟨v, r, e, RD.keep k d v h1, RDs.keep k ds r h2⟩
end
theorem RDs.nil_ {vs : List V} (h : RDs K w H [] vs) : vs = [] := h
theorem RDs.cons {d : D} {v : V} {ds : List D} {vs : List V} (h : RD K w H d v) (t : RDs K w H ds vs) : RDs K w H (d :: ds) (v :: vs) := ⟨v, vs, rfl, h, t⟩
theorem RDs.length : ∀ {ds : List D} {vs : List V}, RDs K w H ds vs → vs.length = ds.length
  | [], _, h => by rw [RDs.nil_ h]; rfl
  | d :: ds, _, ⟨v, r, e, h1, h2⟩ => by rw [e, List.length_cons, List.length_cons, RDs.length h2]
theorem RDs.append : ∀ {ds es : List D} {vs us : List V}, RDs K w H ds vs → RDs K w H es us → RDs K w H (ds ++ es) (vs ++ us)
  | [], _, _, _, h, q => by rw [RDs.nil_ h]; exact q
  | d :: ds, _, _, _, ⟨v, r, e, h1, h2⟩, q => by rw [e]; exact ⟨v, r ++ _, rfl, h1, RDs.append h2 q⟩
theorem RDs.get : ∀ {ds : List D} {vs : List V} {i : Nat} {d : D}, RDs K w H ds vs → ds[i]? = some d → ∃ v, vs[i]? = some v ∧ RD K w H d v
  | [], _, _, _, _, e => by simp at e
  | d :: ds, _, 0, _, ⟨v, r, e, h1, h2⟩, q => by
    simp at q; subst q; subst e; exact ⟨v, rfl, h1⟩
  | d :: ds, _, i + 1, _, ⟨v, r, e, h1, h2⟩, q => by
    obtain ⟨u, a, b⟩ := RDs.get (i := i) h2 (by simpa using q)
    subst e
    exact ⟨u, by simpa using a, b⟩
theorem RDs.back : ∀ {ds : List D} {vs : List V} {i : Nat} {v : V}, RDs K w H ds vs → vs[i]? = some v → ∃ d, ds[i]? = some d ∧ RD K w H d v
  | [], _, _, _, h, e => by rw [RDs.nil_ h] at e; simp at e
  | d :: ds, _, 0, _, ⟨v, r, e, h1, h2⟩, q => by
    subst e; simp at q; subst q; exact ⟨d, rfl, h1⟩
  | d :: ds, _, i + 1, _, ⟨v, r, e, h1, h2⟩, q => by
    subst e
    obtain ⟨u, a, b⟩ := RDs.back (i := i) h2 (by simpa using q)
    exact ⟨u, by simpa using a, b⟩
theorem RDs.set {d : D} {v : V} (h : RD K w H d v) : ∀ {ds : List D} {vs : List V} (i : Nat), RDs K w H ds vs → RDs K w H (ds.set i d) (vs.set i v)
  | [], _, _, q => by rw [RDs.nil_ q]; exact rfl
  | _ :: ds, _, 0, ⟨u, r, e, h1, h2⟩ => by subst e; exact ⟨v, r, rfl, h, h2⟩
  | _ :: ds, _, i + 1, ⟨u, r, e, h1, h2⟩ => by subst e; exact ⟨u, r.set i v, rfl, h1, RDs.set h i h2⟩
theorem RDs.take : ∀ {ds : List D} {vs : List V} (n : Nat), RDs K w H ds vs → RDs K w H (ds.take n) (vs.take n)
  | _, _, 0, _ => rfl
  | [], _, _ + 1, q => by rw [RDs.nil_ q]; exact rfl
  | d :: ds, _, n + 1, ⟨u, r, e, h1, h2⟩ => by subst e; exact ⟨u, r.take n, rfl, h1, RDs.take n h2⟩
theorem RDs.drop : ∀ {ds : List D} {vs : List V} (n : Nat), RDs K w H ds vs → RDs K w H (ds.drop n) (vs.drop n)
  | _, _, 0, q => q
  | [], _, _ + 1, q => by rw [RDs.nil_ q]; exact rfl
  | d :: ds, _, n + 1, ⟨u, r, e, h1, h2⟩ => by subst e; exact RDs.drop n h2
end

/-- an entry as data -/
structure REnt (K : PySem.W.Frag) (w : World) (H : Hp) (p : D × D) (x : NestedKey × Value × Value) : Prop where
  key : keyOf p.1 = some x.1
  deep : x.1.depth ≤ 7
  kv : ∃ v, RelV v x.2.1 ∧ RD K w H p.1 v
  vv : ∃ v, RelV v x.2.2 ∧ RD K w H p.2 v
theorem REnt.keep {K : PySem.W.Frag} {w : World} {H H' : Hp} {p : D × D} {x : NestedKey × Value × Value} (k : Keeps H H') (r : REnt K w H p x) : REnt K w H' p x :=
  ⟨r.key, r.deep, let ⟨v, a, b⟩ := r.kv; ⟨v, a, RD.keep k _ _ b⟩, let ⟨v, a, b⟩ := r.vv; ⟨v, a, RD.keep k _ _ b⟩⟩
abbrev REnts (K : PySem.W.Frag) (w : World) (H : Hp) : List (D × D) → List (NestedKey × Value × Value) → Prop := Paired (REnt K w H)
abbrev RFs (K : PySem.W.Frag) (w : World) (H : Hp) : List (Str × D) → List (Str × V) → Prop := Paired fun p q => p.1 = q.1 ∧ RD K w H p.2 q.2

def RO (K : PySem.W.Frag) (w : World) (H : Hp) (a : Addr) : DO → Prop
  | .lst ds => ∃ vs, H a = some (.lst vs) ∧ RDs K w H ds vs
  | .ins C fs => ∃ dx vfs, H a = some (.ins C dx vfs) ∧ RFs K w H fs vfs
  | .dct kvs => ∃ xs, H a = some (.ext (isDict w a xs)) ∧ (a == sysModules) = false ∧ kvs.length ≤ sizeLine ∧ (xs.map (·.1)).Nodup ∧ REnts K w H kvs xs
  | .absl Φ => ∃ ds, Φ ds ∧ ∃ vs, H a = some (.lst vs) ∧ RDs K w H ds vs
  | .absd Φ => ∃ kvs, Φ kvs ∧ ∃ xs, H a = some (.ext (isDict w a xs)) ∧ (a == sysModules) = false ∧ kvs.length ≤ sizeLine ∧ (xs.map (·.1)).Nodup ∧ REnts K w H kvs xs
  | .ldc kvs => ∃ xs o, H a = some (.frz o (.ext (isDict w a xs))) ∧ (a == sysModules) = false ∧ kvs.length ≤ sizeLine ∧ (xs.map (·.1)).Nodup ∧ REnts K w H kvs xs

def RH (K : PySem.W.Frag) (w : World) (H : Hp) (h : DH) : Prop := ∀ a o, h a = some o → RO K w H a o
section
variable {K : PySem.W.Frag} {w : World} {H H' : Hp} {h h' : DH} {a b : Addr} {o : DO}
theorem RFs.keep (k : Keeps H H') {fs : List (Str × D)} {vs : List (Str × V)} (r : RFs K w H fs vs) : RFs K w H' fs vs := Paired.mapP r fun _ _ z => ⟨z.1, RD.keep k _ _ z.2⟩
theorem REnts.keep (k : Keeps H H') {fs : List (D × D)} {vs : List (NestedKey × Value × Value)} (r : REnts K w H fs vs) : REnts K w H' fs vs := Paired.mapP r fun _ _ z => z.keep k
theorem RO.keep (k : Keeps H H') (e : H' a = H a) (r : RO K w H a o) : RO K w H' a o := by
  cases o with
  | lst ds => obtain ⟨vs, h1, h2⟩ := r; exact ⟨vs, e.trans h1, RDs.keep k _ _ h2⟩
  | ins C fs => obtain ⟨dx, vs, h1, h2⟩ := r; exact ⟨dx, vs, e.trans h1, RFs.keep k h2⟩
  | dct kvs => obtain ⟨xs, h1, h2, h3, h4, h5⟩ := r; exact ⟨xs, e.trans h1, h2, h3, h4, h5.keep k⟩
  | ldc kvs => obtain ⟨xs, o, h1, h2, h3, h4, h5⟩ := r; exact ⟨xs, o, e.trans h1, h2, h3, h4, h5.keep k⟩
  | absl Φ => obtain ⟨ds, p, vs, h1, h2⟩ := r; exact ⟨ds, p, vs, e.trans h1, RDs.keep k _ _ h2⟩
  | absd Φ => obtain ⟨kvs, p, xs, h1, h2, h3, h4, h5⟩ := r; exact ⟨kvs, p, xs, e.trans h1, h2, h3, h4, h5.keep k⟩
theorem RO.some (r : RO K w H a o) : ∃ u, H a = some u := by
  cases o with
  | lst ds => obtain ⟨vs, h1, h2⟩ := r; exact ⟨_, h1⟩
  | ins C fs => obtain ⟨dx, vs, h1, h2⟩ := r; exact ⟨_, h1⟩
  | dct kvs => obtain ⟨xs, h1, h2, h3, h4, h5⟩ := r; exact ⟨_, h1⟩
  | ldc kvs => obtain ⟨xs, o, h1, h2, h3, h4, h5⟩ := r; exact ⟨_, h1⟩
  | absl Φ => obtain ⟨ds, p, vs, h1, h2⟩ := r; exact ⟨_, h1⟩
  | absd Φ => obtain ⟨kvs, p, xs, h1, h2, h3, h4, h5⟩ := r; exact ⟨_, h1⟩
theorem RH.free (r : RH K w H h) (n : H a = none) : h a = none := by
  cases q : h a with
  | none => rfl
  | some o => obtain ⟨u, e⟩ := (r a o q).some; rw [n] at e; cases e
theorem RH.wr {u : HO} (r : RH K w H h) (k : Keeps H (upd H a u)) (n : RO K w (upd H a u) a o) : RH K w (upd H a u) (put h a o) := fun b ob e => by
  by_cases hb : b = a
  · subst hb; rw [put_same] at e; cases e; exact n
  · rw [put_ne hb] at e
    exact (r b ob e).keep k (upd_ne hb)
/-- an address that the data does not tell may change -/
theorem RH.hide {u : HO} (r : RH K w H h) (n : h a = none) (k : Keeps H (upd H a u)) : RH K w (upd H a u) h := fun b ob e =>
  (r b ob e).keep k (upd_ne (fun q => by rw [q, n] at e; cases e))
theorem RH.less (r : RH K w H h) (s : ∀ a o, h' a = some o → h a = some o) : RH K w H h' := fun a o e => r a o (s a o e)
end

/-- the frame's values -/
def RS (K : PySem.W.Frag) (w : World) (H : Hp) (dσ : DSt) (σ : L2.St) : Prop := dσ.length = σ.length ∧ ∀ (i : Nat) d, dσ[i]? = some (some d) → ∃ v, σ[i]? = some (some v) ∧ RD K w H d v
theorem RS.keep {K : PySem.W.Frag} {w : World} {H H' : Hp} {dσ : DSt} {σ : L2.St} (k : Keeps H H') (r : RS K w H dσ σ) : RS K w H' dσ σ := ⟨r.1, fun i d e => let ⟨v, a, b⟩ := r.2 i d e; ⟨v, a, RD.keep k _ _ b⟩⟩
theorem RS.set {K : PySem.W.Frag} {w : World} {H : Hp} {dσ : DSt} {σ : L2.St} {d : D} {v : V} (r : RS K w H dσ σ) (i : Nat) (h : RD K w H d v) : RS K w H (dσ.set i (some d)) (σ.set i (some v)) := by
  refine ⟨by rw [List.length_set, List.length_set]; exact r.1, fun j e q => ?_⟩
  by_cases hj : i = j
  · subst hj
    by_cases hl : i < dσ.length
    · rw [List.getElem?_set_self hl] at q; cases q
      exact ⟨v, List.getElem?_set_self (by rw [← r.1]; exact hl), h⟩
    · rw [List.getElem?_eq_none (by simpa using hl)] at q; cases q
  · rw [List.getElem?_set_ne hj] at q
    rw [List.getElem?_set_ne hj]
    exact r.2 j e q
theorem RS.wipe1 {K : PySem.W.Frag} {w : World} {H : Hp} {dσ : DSt} {σ : L2.St} (r : RS K w H dσ σ) (i : Nat) : RS K w H (dσ.set i none) (σ.set i none) := by
  refine ⟨by rw [List.length_set, List.length_set]; exact r.1, fun j e q => ?_⟩
  by_cases hj : i = j
  · subst hj
    by_cases hl : i < dσ.length
    · rw [List.getElem?_set_self hl] at q; cases q
    · rw [List.getElem?_eq_none (by simpa using hl)] at q; cases q
  · rw [List.getElem?_set_ne hj] at q
    rw [List.getElem?_set_ne hj]
    exact r.2 j e q

/-! ### the lifted readings -/
abbrev Fin (K : PySem.W.Frag) (w : World) (H : Hp) (P : DK) (Q : VK) : Prop := ∀ d h v H', P d h → Keeps H H' → RH K w H' h → RD K w H' d v → Q v H'
def LE (K : PySem.W.Frag) (w : World) (t : DTE) : TE := fun σ H Q => ∃ dσ h P, RS K w H dσ σ ∧ RH K w H h ∧ t dσ h P ∧ Fin K w H P Q
def LT (K : PySem.W.Frag) (w : World) (t : DTT) : TT := fun σ H Q => ∃ dσ h P, RS K w H dσ σ ∧ RH K w H h ∧ t dσ h P ∧ ∀ b h' H', P b h' → Keeps H H' → RH K w H' h' → Q b H'
def LA (K : PySem.W.Frag) (w : World) (t : DTA) : TA := fun σ H Q => ∃ dσ h P, RS K w H dσ σ ∧ RH K w H h ∧ t dσ h P ∧ ∀ ds h' vs H', P ds h' → Keeps H H' → RH K w H' h' → RDs K w H' ds vs → Q vs H'
structure DE (X : Cx) (e : Expr) (t : DTE) : Prop where
  pe : PE X e (LE X.K X.w t)
structure DT (X : Cx) (e : Expr) (t : DTT) : Prop where
  pt : PT X e (LT X.K X.w t)
structure DA (X : Cx) (es : List Expr) (t : DTA) : Prop where
  pa : PA X es (LA X.K X.w t)
theorem peImp {X : Cx} {e : Expr} {t t' : TE} (h : PE X e t) (i : ∀ σ H Q, t' σ H Q → t σ H Q) : PE X e t' := ⟨fun pins s σ H Q I q => h.run pins s σ H Q I (i σ H Q q)⟩
theorem ptImp {X : Cx} {e : Expr} {t t' : TT} (h : PT X e t) (i : ∀ σ H Q, t' σ H Q → t σ H Q) : PT X e t' := ⟨fun pins s σ H Q I q => h.run pins s σ H Q I (i σ H Q q)⟩
theorem paImp {X : Cx} {e : List Expr} {t t' : TA} (h : PA X e t) (i : ∀ σ H Q, t' σ H Q → t σ H Q) : PA X e t' := ⟨fun pos pins s σ H Q I q => h.run pos pins s σ H Q I (i σ H Q q)⟩
theorem psImp {X : Cx} {e : Stmt} {t t' : TS} (h : PS X e t) (i : ∀ D σ H, t' D σ H → t D σ H) : PS X e t' := ⟨fun pins s σ H D I q => h.run pins s σ H D I (i D σ H q)⟩
theorem pssImp {X : Cx} {e : List Stmt} {t t' : TS} (h : PSs X e t) (i : ∀ D σ H, t' D σ H → t D σ H) : PSs X e t' := ⟨fun pins s σ H D I q => h.run pins s σ H D I (i D σ H q)⟩

/-! ### statements -/
structure DEnds where
  nx : DSt → DH → Prop
  rt : DK
  bk : DSt → DH → Prop := fun _ _ => False
  ct : DSt → DH → Prop := fun _ _ => False
abbrev DTS := DEnds → DSt → DH → Prop
abbrev FinS (K : PySem.W.Frag) (w : World) (H : Hp) (p : DSt → DH → Prop) (q : L2.St → Hp → Prop) : Prop := ∀ dσ h σ H', p dσ h → Keeps H H' → RH K w H' h → RS K w H' dσ σ → q σ H'
structure Ends4 (K : PySem.W.Frag) (w : World) (H : Hp) (E : DEnds) (Q : Ends) : Prop where
  nx : FinS K w H E.nx Q.nx
  rt : Fin K w H E.rt Q.rt
  bk : FinS K w H E.bk Q.bk
  ct : FinS K w H E.ct Q.ct
def LS (K : PySem.W.Frag) (w : World) (t : DTS) : TS := fun Q σ H => ∃ dσ h E, RS K w H dσ σ ∧ RH K w H h ∧ t E dσ h ∧ Ends4 K w H E Q
structure DS (X : Cx) (s : Stmt) (t : DTS) : Prop where
  ps : PS X s (LS X.K X.w t)
structure DSs (X : Cx) (s : List Stmt) (t : DTS) : Prop where
  pss : PSs X s (LS X.K X.w t)
section
variable {K : PySem.W.Frag} {w : World} {H H' : Hp}
theorem Fin.keep {P : DK} {Q : VK} (k : Keeps H H') (f : Fin K w H P Q) : Fin K w H' P Q := fun d h v H2 p k2 => f d h v H2 p (k.trans k2)
theorem FinS.keep {P : DSt → DH → Prop} {Q : L2.St → Hp → Prop} (k : Keeps H H') (f : FinS K w H P Q) : FinS K w H' P Q := fun d h v H2 p k2 => f d h v H2 p (k.trans k2)
theorem Ends4.keep {E : DEnds} {Q : Ends} (k : Keeps H H') (f : Ends4 K w H E Q) : Ends4 K w H' E Q := ⟨f.nx.keep k, f.rt.keep k, f.bk.keep k, f.ct.keep k⟩
end
end DL
/-! D2: expressions. -/
namespace DL
open PySem PySem.Spec PyProof.Rows L2

section
variable {X : Cx} {a b c e : Expr} {ta tb tc t : DTE} {pos : Pos}

/-! ### names, constants -/
def dVar (i : Nat) : DTE := fun σ h P => match σ[i]? with
  | some (some d) => P d h
  | _ => False
def dC (d : D) : DTE := fun _ h P => P d h
theorem de_var (i : Nat) {x : Str} (hN : X.N[i]? = some x := by rfl) (hv : Vis X.env.scope x := by first | exact Or.inl rfl | exact Or.inr (Or.inl rfl) | exact Or.inr (Or.inr rfl)) (hd : (x == ("__debug__" : Str)) = false := by decide)
    (hcd : (x == ("__classdict__" : Str)) = false := by decide) : DE X (.Name x pos) (dVar i) := by
  refine ⟨peImp (pe_var hN hv hd hcd) ?_⟩
  rintro σ H Q ⟨dσ, h, P, rs, rh, q, f⟩
  unfold dVar at q
  split at q
  · rename_i d e
    obtain ⟨v, e2, r⟩ := rs.2 i d e
    exact ⟨v, e2, f d h v H q (Keeps.refl _) rh r⟩
  · exact q.elim
theorem de_con {v : V} {d : D} (h : PE X e (tC v)) (r : ∀ H, RD X.K X.w H d v) : DE X e (dC d) := by
  refine ⟨peImp h ?_⟩
  rintro σ H Q ⟨dσ, h, P, rs, rh, q, f⟩
  exact f d h v H q (Keeps.refl _) rh (r H)
theorem de_int {i j pos} : DE X (.Constant (.int i) j pos) (dC (.int i)) := de_con pe_int fun _ => rfl
theorem de_bl {i j pos} : DE X (.Constant (.bool i) j pos) (dC (.bl i)) := de_con pe_bl fun _ => rfl
theorem de_non {j pos} : DE X (.Constant .none j pos) (dC .non) := de_con pe_non fun _ => rfl
theorem de_str {x j pos} : DE X (.Constant (.str x) j pos) (dC (.str x)) := de_con pe_str fun _ => rfl
/-- a module's constant -/
theorem de_gInt {x : Str} {i : Int} {tk : Tok} (hg : Gl X x) (hm : X.mg x = some (.int i tk)) (hd : (x == ("__debug__" : Str)) = false := by decide) : DE X (.Name x pos) (dC (.int i)) := de_con (pe_glob (v := .int i) hg hm ⟨_, rfl⟩ hd) fun _ => rfl
theorem de_gStr {x s : Str} {tk : Tok} (hg : Gl X x) (hm : X.mg x = some (.str s tk)) (hd : (x == ("__debug__" : Str)) = false := by decide) : DE X (.Name x pos) (dC (.str s)) := de_con (pe_glob (v := .str s) hg hm ⟨_, rfl⟩ hd) fun _ => rfl
theorem de_gTy {x : Str} {n : String} (hg : Gl X x) (hm : X.mg x = none) (hv : bootBuiltins x = some (.type n)) (hn : x ≠ "__name__" := by decide) (hd : (x == ("__debug__" : Str)) = false := by decide) : DE X (.Name x pos) (dC (.ty n)) :=
  de_con (pe_bltn (v := .ty n) hg hm hv rfl hn hd) fun _ => rfl
theorem de_gRef {x : Str} {a : Addr} (hg : Gl X x) (hm : X.mg x = some (.ref a)) (hd : (x == ("__debug__" : Str)) = false := by decide) : DE X (.Name x pos) (dC (.ref a)) := de_con (pe_glob (v := .ref a) hg hm rfl hd) fun _ => rfl

/-! ### operations by values -/
abbrev DR2 := D → D → DH → DK → Prop
def LR (K : PySem.W.Frag) (w : World) (r : DR2) : R2 := fun x y H Q => ∃ dx dy h P, RD K w H dx x ∧ RD K w H dy y ∧ RH K w H h ∧ r dx dy h P ∧ Fin K w H P Q
def DOp (X : Cx) (f : Value → Value → Sem Value) (r : DR2) : Prop := OpR X f (LR X.K X.w r)
def dOp (r : DR2) (ta tb : DTE) : DTE := fun σ h P => ta σ h fun x h1 => tb σ h1 fun y h2 => r x y h2 P
/-- two readings in a row, lifted -/
theorem lift2 {K : PySem.W.Frag} {w : World} {r : DR2} {σ : L2.St} {H : Hp} {Q : VK} (q : LE K w (dOp r ta tb) σ H Q) : tOp (LR K w r) (LE K w ta) (LE K w tb) σ H Q := by
  obtain ⟨dσ, h, P, rs, rh, q, f⟩ := q
  refine ⟨dσ, h, _, rs, rh, q, fun x h1 v H1 q1 k1 rh1 rx => ?_⟩
  refine ⟨dσ, h1, _, rs.keep k1, rh1, q1, fun y h2 u H2 q2 k2 rh2 ry => ?_⟩
  exact ⟨x, y, h2, P, RD.keep k2 _ _ rx, ry, rh2, q2, f.keep (k1.trans k2)⟩
theorem de_op {op : Operator} {r : DR2} (ho : DOp X (binaryOp op) r) (ha : DE X a ta) (hb : DE X b tb) : DE X (.BinOp a op b pos) (dOp r ta tb) :=
  ⟨peImp (pe_op ho ha.pe hb.pe) fun _ _ _ q => lift2 q⟩
theorem de_cmp {op : CmpOp} {r : DR2} (ho : DOp X (compareOp op) r) (ha : DE X a ta) (hb : DE X b tb) (hm : behindInMarks op b = false) : DE X (.Compare a [op] [b] pos) (dOp r ta tb) :=
  ⟨peImp (pe_cmpR ho ha.pe hb.pe hm) fun _ _ _ q => lift2 q⟩
/-- the value is a flag -/
def asB (k : Bool → DH → Prop) : DK := fun d h => match d with
  | .bl b => k b h
  | _ => False
theorem asB_of {k : Bool → DH → Prop} {d : D} {h : DH} (q : asB k d h) : ∃ b, d = .bl b ∧ k b h := by
  unfold asB at q
  split at q
  · exact ⟨_, rfl, q⟩
  · exact q.elim
def dTest (t : DTE) : DTT := fun σ h P => t σ h (asB P)
theorem dt_cmp {op : CmpOp} {r : DR2} (ho : DOp X (compareOp op) r) (ha : DE X a ta) (hb : DE X b tb) (hm : behindInMarks op b = false) : DT X (.Compare a [op] [b] pos) (dTest (dOp r ta tb)) := by
  refine ⟨ptImp (pt_cmpR ho ha.pe hb.pe hm) ?_⟩
  rintro σ H Q ⟨dσ, h, P, rs, rh, q, f⟩
  refine lift2 ⟨dσ, h, _, rs, rh, q, fun d h' v H' p k rh' r' => ?_⟩
  obtain ⟨b, rfl, p'⟩ := asB_of p
  exact ⟨b, r', f b h' H' p' k rh'⟩
theorem dt_val (he : DE X e t) (hs : ∀ whole, isTrue e X.env whole = (do let v ← whole; standAt e.pos; holding [v] (truthy v)) := by intro _; rfl) : DT X e (dTest t) := by
  refine ⟨ptImp (pt_val he.pe hs) ?_⟩
  rintro σ H Q ⟨dσ, h, P, rs, rh, q, f⟩
  refine ⟨dσ, h, _, rs, rh, q, fun d h' v H' p k rh' r' => ?_⟩
  obtain ⟨b, rfl, p'⟩ := asB_of p
  exact ⟨b, r', f b h' H' p' k rh'⟩
/-! chains -/
def dChain (r r' : DR2) (ta tb tc : DTE) : DTE := fun σ h P => ta σ h fun x h1 => tb σ h1 fun y h2 => r x y h2 (asB fun k h3 => if k = true then tc σ h3 (fun z h4 => r' y z h4 P) else P (.bl false) h3)
theorem liftC {K : PySem.W.Frag} {w : World} {r r' : DR2} {σ : L2.St} {H : Hp} {Q : VK} (q : LE K w (dChain r r' ta tb tc) σ H Q) : tChain (LR K w r) (LR K w r') (LE K w ta) (LE K w tb) (LE K w tc) σ H Q := by
  obtain ⟨dσ, h, P, rs, rh, q, f⟩ := q
  refine ⟨dσ, h, _, rs, rh, q, fun x h1 v H1 q1 k1 rh1 rx => ?_⟩
  refine ⟨dσ, h1, _, rs.keep k1, rh1, q1, fun y h2 u H2 q2 k2 rh2 ry => ?_⟩
  refine ⟨x, y, h2, _, RD.keep k2 _ _ rx, ry, rh2, q2, fun z h3 zv H3 q3 k3 rh3 rz => ?_⟩
  obtain ⟨k, rfl, q4⟩ := asB_of q3
  refine ⟨k, rz, ?_⟩
  cases k with
  | true =>
    rw [if_pos rfl]
    rw [if_pos rfl] at q4
    refine ⟨dσ, h3, _, rs.keep (k1.trans (k2.trans k3)), rh3, q4, fun z h4 zv H4 q5 k4 rh4 rz => ?_⟩
    exact ⟨y, z, h4, P, RD.keep (k3.trans k4) _ _ ry, rz, rh4, q5, f.keep (k1.trans (k2.trans (k3.trans k4)))⟩
  | false =>
    rw [if_neg Bool.false_ne_true]
    rw [if_neg Bool.false_ne_true] at q4
    exact f _ _ _ _ q4 (k1.trans (k2.trans k3)) rh3 rfl
theorem de_chain {op op' : CmpOp} {r r' : DR2} (ho : DOp X (compareOp op) r) (ho' : DOp X (compareOp op') r') (ha : DE X a ta) (hb : DE X b tb) (hc : DE X c tc) (hm : lastMarks [op, op'] [b, c] = false := by with_unfolding_all rfl) :
    DE X (.Compare a [op, op'] [b, c] pos) (dChain r r' ta tb tc) := ⟨peImp (pe_chain ho ho' ha.pe hb.pe hc.pe hm) fun _ _ _ q => liftC q⟩
theorem dt_chain {op op' : CmpOp} {r r' : DR2} (ho : DOp X (compareOp op) r) (ho' : DOp X (compareOp op') r') (ha : DE X a ta) (hb : DE X b tb) (hc : DE X c tc) (hm : lastMarks [op, op'] [b, c] = false := by with_unfolding_all rfl) :
    DT X (.Compare a [op, op'] [b, c] pos) (dTest (dChain r r' ta tb tc)) := by
  refine ⟨ptImp (pt_chain ho ho' ha.pe hb.pe hc.pe hm) ?_⟩
  rintro σ H Q ⟨dσ, h, P, rs, rh, q, f⟩
  refine liftC ⟨dσ, h, _, rs, rh, q, fun d h' v H' p k rh' r' => ?_⟩
  obtain ⟨b, rfl, p'⟩ := asB_of p
  exact ⟨b, r', f b h' H' p' k rh'⟩

/-! ### and, or, not, if else -/
structure DW (X : Cx) (e : Expr) (t : DTT) : Prop where
  pw : PW X e (LT X.K X.w t)
variable {tA tB : DTT} {rest : List Expr}
def dAnd (t u : DTT) : DTT := fun σ h P => t σ h fun c h1 => if c = true then u σ h1 P else P false h1
def dOr (t u : DTT) : DTT := fun σ h P => t σ h fun c h1 => if c = true then P true h1 else u σ h1 P
def dNot (t : DTT) : DTT := fun σ h P => t σ h fun c h1 => P (!c) h1
theorem DW.dt (h : DW X e tA) : DT X e tA := ⟨h.pw.pt⟩
theorem dw_and1 (ha : DT X a tA) : DW X (.BoolOp .And [a] pos) tA := ⟨pw_and1 ha.pt⟩
theorem dw_or1 (ha : DT X a tA) : DW X (.BoolOp .Or [a] pos) tA := ⟨pw_or1 ha.pt⟩
theorem dw_and (ha : DT X a tA) (hb : DW X (.BoolOp .And (b :: rest) pos) tB) : DW X (.BoolOp .And (a :: b :: rest) pos) (dAnd tA tB) := by
  refine ⟨⟨fun wh pins s σ H Q I q => (pw_and ha.pt hb.pw).run wh pins s σ H Q I ?_⟩⟩
  obtain ⟨dσ, h, P, rs, rh, q, f⟩ := q
  refine ⟨dσ, h, _, rs, rh, q, fun c h1 H1 q1 k1 rh1 => ?_⟩
  cases c with
  | true =>
    rw [if_pos rfl] at q1 ⊢
    exact ⟨dσ, h1, P, rs.keep k1, rh1, q1, fun b h2 H2 p k2 r2 => f b h2 H2 p (k1.trans k2) r2⟩
  | false =>
    rw [if_neg Bool.false_ne_true] at q1 ⊢
    exact f _ _ _ q1 k1 rh1
theorem dw_or (ha : DT X a tA) (hb : DW X (.BoolOp .Or (b :: rest) pos) tB) : DW X (.BoolOp .Or (a :: b :: rest) pos) (dOr tA tB) := by
  refine ⟨⟨fun wh pins s σ H Q I q => (pw_or ha.pt hb.pw).run wh pins s σ H Q I ?_⟩⟩
  obtain ⟨dσ, h, P, rs, rh, q, f⟩ := q
  refine ⟨dσ, h, _, rs, rh, q, fun c h1 H1 q1 k1 rh1 => ?_⟩
  cases c with
  | true =>
    rw [if_pos rfl] at q1 ⊢
    exact f _ _ _ q1 k1 rh1
  | false =>
    rw [if_neg Bool.false_ne_true] at q1 ⊢
    exact ⟨dσ, h1, P, rs.keep k1, rh1, q1, fun b h2 H2 p k2 r2 => f b h2 H2 p (k1.trans k2) r2⟩
theorem dt_not (ha : DT X a tA) : DT X (.UnaryOp .Not a pos) (dNot tA) := by
  refine ⟨ptImp (pt_not ha.pt) ?_⟩
  rintro σ H Q ⟨dσ, h, P, rs, rh, q, f⟩
  exact ⟨dσ, h, _, rs, rh, q, fun c h1 H1 q1 k1 rh1 => f _ _ _ q1 k1 rh1⟩
def dAndV (ta tb : DTE) : DTE := fun σ h P => ta σ h (asB fun c h1 => if c = true then tb σ h1 P else P (.bl false) h1)
def dOrV (ta tb : DTE) : DTE := fun σ h P => ta σ h (asB fun c h1 => if c = true then P (.bl true) h1 else tb σ h1 P)
def dNotV (ta : DTE) : DTE := fun σ h P => ta σ h (asB fun c h1 => P (.bl (!c)) h1)
theorem de_one {op} (h : DE X a t) : DE X (.BoolOp op [a] pos) t := ⟨pe_one h.pe⟩
theorem de_and (ha : DE X a ta) (hb : DE X (.BoolOp .And (b :: rest) pos) tb) : DE X (.BoolOp .And (a :: b :: rest) pos) (dAndV ta tb) := by
  refine ⟨peImp (pe_and ha.pe hb.pe) ?_⟩
  rintro σ H Q ⟨dσ, h, P, rs, rh, q, f⟩
  refine ⟨dσ, h, _, rs, rh, q, fun d h1 v H1 q1 k1 rh1 r1 => ?_⟩
  obtain ⟨c, rfl, q2⟩ := asB_of q1
  refine ⟨c, r1, ?_⟩
  cases c with
  | true => rw [if_pos rfl] at q2 ⊢; exact ⟨dσ, h1, P, rs.keep k1, rh1, q2, f.keep k1⟩
  | false => rw [if_neg Bool.false_ne_true] at q2 ⊢; exact f _ _ _ _ q2 k1 rh1 rfl
theorem de_or (ha : DE X a ta) (hb : DE X (.BoolOp .Or (b :: rest) pos) tb) : DE X (.BoolOp .Or (a :: b :: rest) pos) (dOrV ta tb) := by
  refine ⟨peImp (pe_or ha.pe hb.pe) ?_⟩
  rintro σ H Q ⟨dσ, h, P, rs, rh, q, f⟩
  refine ⟨dσ, h, _, rs, rh, q, fun d h1 v H1 q1 k1 rh1 r1 => ?_⟩
  obtain ⟨c, rfl, q2⟩ := asB_of q1
  refine ⟨c, r1, ?_⟩
  cases c with
  | true => rw [if_pos rfl] at q2 ⊢; exact f _ _ _ _ q2 k1 rh1 rfl
  | false => rw [if_neg Bool.false_ne_true] at q2 ⊢; exact ⟨dσ, h1, P, rs.keep k1, rh1, q2, f.keep k1⟩
theorem de_not (ha : DE X a ta) : DE X (.UnaryOp .Not a pos) (dNotV ta) := by
  refine ⟨peImp (pe_not ha.pe) ?_⟩
  rintro σ H Q ⟨dσ, h, P, rs, rh, q, f⟩
  refine ⟨dσ, h, _, rs, rh, q, fun d h1 v H1 q1 k1 rh1 r1 => ?_⟩
  obtain ⟨c, rfl, q2⟩ := asB_of q1
  exact ⟨c, r1, f _ _ _ _ q2 k1 rh1 rfl⟩
def dIf (t : DTT) (ta tb : DTE) : DTE := fun σ h P => t σ h fun c h1 => if c = true then ta σ h1 P else tb σ h1 P
theorem de_ifExp (hc : DT X c tA) (ha : DE X a ta) (hb : DE X b tb) : DE X (.IfExp c a b pos) (dIf tA ta tb) := by
  refine ⟨peImp (pe_ifExp hc.pt ha.pe hb.pe) ?_⟩
  rintro σ H Q ⟨dσ, h, P, rs, rh, q, f⟩
  refine ⟨dσ, h, _, rs, rh, q, fun c h1 H1 q1 k1 rh1 => ?_⟩
  cases c with
  | true => rw [if_pos rfl] at q1 ⊢; exact ⟨dσ, h1, P, rs.keep k1, rh1, q1, f.keep k1⟩
  | false => rw [if_neg Bool.false_ne_true] at q1 ⊢; exact ⟨dσ, h1, P, rs.keep k1, rh1, q1, f.keep k1⟩
end
end DL
/-! D3: operators, subscripts, slices, calls of built-ins, methods: by data. -/
namespace DL
open PySem PySem.Spec PyProof.Rows L2

def lstAt (h : DH) (a : Addr) (k : List D → Prop) : Prop := match h a with
  | some (.lst xs) => k xs
  | _ => False
theorem lstAt_of {h : DH} {a : Addr} {k : List D → Prop} {xs : List D} (e : h a = some (.lst xs)) (q : k xs) : lstAt h a k := by unfold lstAt; rw [e]; exact q
theorem of_lstAt {h : DH} {a : Addr} {k : List D → Prop} (q : lstAt h a k) : ∃ xs, h a = some (.lst xs) ∧ k xs := by
  unfold lstAt at q
  split at q
  · rename_i xs e; exact ⟨xs, e, q⟩
  · exact q.elim
def insAt (h : DH) (a : Addr) (k : Addr → List (Str × D) → Prop) : Prop := match h a with
  | some (.ins C fs) => k C fs
  | _ => False
theorem insAt_of {h : DH} {a : Addr} {k : Addr → List (Str × D) → Prop} {C fs} (e : h a = some (.ins C fs)) (q : k C fs) : insAt h a k := by unfold insAt; rw [e]; exact q
theorem of_insAt {h : DH} {a : Addr} {k : Addr → List (Str × D) → Prop} (q : insAt h a k) : ∃ C fs, h a = some (.ins C fs) ∧ k C fs := by
  unfold insAt at q
  split at q
  · rename_i C fs e; exact ⟨C, fs, e, q⟩
  · exact q.elim
def dctAt (h : DH) (a : Addr) (k : List (D × D) → Prop) : Prop := match h a with
  | some (.dct xs) => k xs
  | _ => False
theorem dctAt_of {h : DH} {a : Addr} {k : List (D × D) → Prop} {xs : List (D × D)} (e : h a = some (.dct xs)) (q : k xs) : dctAt h a k := by unfold dctAt; rw [e]; exact q
theorem of_dctAt {h : DH} {a : Addr} {k : List (D × D) → Prop} (q : dctAt h a k) : ∃ xs, h a = some (.dct xs) ∧ k xs := by
  unfold dctAt at q
  split at q
  · rename_i xs e; exact ⟨xs, e, q⟩
  · exact q.elim
/-- a list to be read: one that stands or one by value -/
def seqAt (d : D) (h : DH) (k : List D → Prop) : Prop := match d with
  | .ref a => lstAt h a k
  | .rol xs => k xs
  | _ => False
def rdct (h : DH) (a : Addr) (k : List (D × D) → Prop) : Prop := match h a with
  | some (.dct kvs) => k kvs
  | some (.ldc kvs) => k kvs
  | _ => False
theorem rdct_of {h : DH} {a : Addr} {k : List (D × D) → Prop} {kvs : List (D × D)} (e : h a = some (.dct kvs)) (q : k kvs) : rdct h a k := by unfold rdct; rw [e]; exact q
theorem rdct_ofL {h : DH} {a : Addr} {k : List (D × D) → Prop} {kvs : List (D × D)} (e : h a = some (.ldc kvs)) (q : k kvs) : rdct h a k := by unfold rdct; rw [e]; exact q
theorem of_rdct {h : DH} {a : Addr} {k : List (D × D) → Prop} (q : rdct h a k) : ∃ kvs, (h a = some (.dct kvs) ∨ h a = some (.ldc kvs)) ∧ k kvs := by
  unfold rdct at q
  split at q
  · rename_i kvs e
    exact ⟨kvs, .inl e, q⟩
  · rename_i kvs e
    exact ⟨kvs, .inr e, q⟩
  · exact q.elim
def fresh (h : DH) (o : DO) (k : Addr → DH → Prop) : Prop := ∀ p, h p = none → k p (put h p o)

section
variable {K : PySem.W.Frag} {w : World} {H : Hp} {h : DH} {a : Addr}
theorem RH.lst {ds : List D} (r : RH K w H h) (e : h a = some (.lst ds)) : ∃ vs, H a = some (.lst vs) ∧ RDs K w H ds vs := r a _ e
theorem seq_of {d : D} {v : V} {k : List D → Prop} (rh : RH K w H h) (r : RD K w H d v) (q : seqAt d h k) : ∃ a vs xs, v = .ref a ∧ SqL K H a vs ∧ RDs K w H xs vs ∧ k xs := by
  unfold seqAt at q
  split at q
  · cases r
    obtain ⟨xs, e, q⟩ := of_lstAt q
    obtain ⟨vs, g, t⟩ := rh.lst e
    exact ⟨_, vs, xs, rfl, SqL.of g, t, q⟩
  · obtain ⟨a, vs, rfl, s, t⟩ := r
    exact ⟨a, vs, _, rfl, s.sq, t, q⟩
  · exact q.elim
/-- a list is new -/
theorem RH.newL {p : Addr} {ds : List D} {vs : List V} (r : RH K w H h) (n : H p = none) (q : RDs K w H ds vs) : Keeps H (upd H p (.lst vs)) ∧ RH K w (upd H p (.lst vs)) (put h p (.lst ds)) :=
  ⟨Keeps.new n, r.wr (Keeps.new n) ⟨vs, upd_same, RDs.keep (Keeps.new n) _ _ q⟩⟩
theorem RH.newT {p : Addr} {vs : List V} (r : RH K w H h) (n : H p = none) : Keeps H (upd H p (.tup vs)) ∧ RH K w (upd H p (.tup vs)) h := ⟨Keeps.new n, r.hide (r.free n) (Keeps.new n)⟩
theorem RD.newT {p : Addr} {ds : List D} {vs : List V} (n : H p = none) (q : RDs K w H ds vs) : RD K w (upd H p (.tup vs)) (.tup ds) (.ref p) := ⟨p, vs, rfl, .inl (.inl upd_same), RDs.keep (Keeps.new n) _ _ q⟩
/-- a list is written -/
theorem RH.setL {ds' : List D} {vs vs' : List V} (r : RH K w H h) (e : H a = some (.lst vs)) (q : RDs K w H ds' vs') : Keeps H (upd H a (.lst vs')) ∧ RH K w (upd H a (.lst vs')) (put h a (.lst ds')) :=
  have k := Keeps.over (o' := .lst vs') e True.intro
  ⟨k, r.wr k ⟨vs', upd_same, RDs.keep k _ _ q⟩⟩
theorem RDs.rep {ds : List D} {vs : List V} (q : RDs K w H ds vs) : ∀ n : Nat, RDs K w H (List.replicate n ds).flatten (List.replicate n vs).flatten
  | 0 => rfl
  | n + 1 => by
    rw [List.replicate_succ, List.replicate_succ, List.flatten_cons, List.flatten_cons]
    exact RDs.append q (RDs.rep q n)
theorem RDs.eq_nil {ds : List D} {vs : List V} (q : RDs K w H ds vs) : vs = [] ↔ ds = [] := by
  rw [← List.length_eq_zero_iff, ← List.length_eq_zero_iff, q.length]
end

section
variable {X : Cx}
/-! ### + - * // % ** -/
def dAdd : DR2
  | .int i, .int j, h, P => P (.int (i + j)) h
  | .str i, .str j, h, P => i.length + j.length ≤ sizeLine ∧ P (.str (i ++ j)) h
  | .tup a, .tup b, h, P => a.length + b.length ≤ sizeLine ∧ P (.tup (a ++ b)) h
  | .ref a, .ref b, h, P => lstAt h a fun xs => lstAt h b fun ys => xs.length + ys.length ≤ sizeLine ∧ fresh h (.lst (xs ++ ys)) fun p h' => P (.ref p) h'
  | _, _, _, _ => False
theorem op_dAdd : DOp X (binaryOp .Add) dAdd := by
  intro pins s σ H x y v u Q I rx ry q
  obtain ⟨dx, dy, h, P, r1, r2, rh, q, f⟩ := q
  unfold dAdd at q
  split at q
  · cases r1; cases r2
    exact op_add pins s σ H _ _ v u Q I rx ry ⟨_, _, rfl, rfl, f _ _ _ _ q (Keeps.refl _) rh rfl⟩
  · cases r1; cases r2
    exact op_add_str pins s σ H _ _ v u Q I rx ry ⟨_, _, rfl, rfl, q.1, f _ _ _ _ q.2 (Keeps.refl _) rh rfl⟩
  · obtain ⟨a, vs, rfl, s1, t1⟩ := r1
    obtain ⟨b, us, rfl, s2, t2⟩ := r2
    refine op_catA pins s σ H _ _ v u Q I rx ry ⟨a, b, vs, us, rfl, rfl, s1, s2, by rw [t1.length, t2.length]; exact q.1, fun e => ?_, fun _ e => ?_, fun _ _ p np => ?_⟩
    · refine f _ _ _ _ q.2 (Keeps.refl _) rh ⟨b, us, rfl, s2, ?_⟩
      have := t1.append t2
      rw [e] at this
      exact this
    · refine f _ _ _ _ q.2 (Keeps.refl _) rh ⟨a, vs, rfl, s1, ?_⟩
      have := t1.append t2
      rw [e, List.append_nil] at this
      exact this
    · have n := RH.newT (vs := vs ++ us) rh np
      exact f _ _ _ _ q.2 n.1 n.2 (RD.newT np (t1.append t2))
  · cases r1; cases r2
    obtain ⟨xs, e1, q⟩ := of_lstAt q
    obtain ⟨ys, e2, q⟩ := of_lstAt q
    obtain ⟨vs, g1, t1⟩ := rh.lst e1
    obtain ⟨us, g2, t2⟩ := rh.lst e2
    refine op_cat pins s σ H _ _ v u Q I rx ry ⟨_, _, vs, us, rfl, rfl, g1, g2, by rw [t1.length, t2.length]; exact q.1, fun p np => ?_⟩
    have n := RH.newL rh np (t1.append t2)
    exact f _ _ _ _ (q.2 p (rh.free np)) n.1 n.2 rfl
  · exact q.elim
def dI2 (C : Int → Int → Prop) (g : Int → Int → D) : DR2
  | .int i, .int j, h, P => C i j ∧ P (g i j) h
  | _, _, _, _ => False
theorem op_dI {f : Value → Value → Sem Value} {C : Int → Int → Prop} {g : Int → Int → Int} (ho : OpR X f (rI C fun i j => .int (g i j))) : DOp X f (dI2 C fun i j => .int (g i j)) := by
  intro pins s σ H x y v u Q I rx ry q
  obtain ⟨dx, dy, h, P, r1, r2, rh, q, fn⟩ := q
  unfold dI2 at q
  split at q
  · cases r1; cases r2
    exact ho pins s σ H _ _ v u Q I rx ry ⟨_, _, rfl, rfl, q.1, fn _ _ _ _ q.2 (Keeps.refl _) rh rfl⟩
  · exact q.elim
abbrev CTrue : Int → Int → Prop := fun _ _ => True
theorem op_dI0 {f : Value → Value → Sem Value} {g : Int → Int → Int} (ho : OpR X f (rI0 fun i j => .int (g i j))) : DOp X f (dI2 CTrue fun i j => .int (g i j)) := by
  intro pins s σ H x y v u Q I rx ry q
  obtain ⟨dx, dy, h, P, r1, r2, rh, q, fn⟩ := q
  unfold dI2 at q
  split at q
  · cases r1; cases r2
    exact ho pins s σ H _ _ v u Q I rx ry ⟨_, _, rfl, rfl, fn _ _ _ _ q.2 (Keeps.refl _) rh rfl⟩
  · exact q.elim
abbrev dSub : DR2 := dI2 CTrue fun i j => .int (i - j)
abbrev dFdiv : DR2 := dI2 CDiv fun i j => .int (i / j)
abbrev dMod : DR2 := dI2 (fun _ j => 0 < j) fun i j => .int (i % j)
abbrev dPow : DR2 := dI2 CPow fun i j => .int (i ^ j.toNat)
theorem op_dSub : DOp X (binaryOp .Sub) dSub := op_dI0 op_sub
theorem op_dFdiv : DOp X (binaryOp .FloorDiv) dFdiv := op_dI op_fdiv
theorem op_dMod : DOp X (binaryOp .Mod) dMod := op_dI op_mod
theorem op_dPow : DOp X (binaryOp .Pow) dPow := op_dI op_pow
def dMul : DR2
  | .int i, .int j, h, P => CMul i j ∧ P (.int (i * j)) h
  | .tup xs, .int k, h, P => (xs ≠ [] ∧ 2 ≤ k ∧ k ≤ 1000 ∧ xs.length ≤ 1000) ∧ P (.tup (List.replicate k.toNat xs).flatten) h
  | .ref a, .int k, h, P => lstAt h a fun xs => (-(2 ^ 63) ≤ k ∧ k < 2 ^ 63 ∧ xs.length * k.toNat ≤ sizeLine) ∧ fresh h (.lst (List.replicate k.toNat xs).flatten) fun p h' => P (.ref p) h'
  | _, _, _, _ => False
theorem op_dMul : DOp X (binaryOp .Mult) dMul := by
  intro pins s σ H x y v u Q I rx ry q
  obtain ⟨dx, dy, h, P, r1, r2, rh, q, f⟩ := q
  unfold dMul at q
  split at q
  · cases r1; cases r2
    exact op_mul pins s σ H _ _ v u Q I rx ry ⟨_, _, rfl, rfl, q.1, f _ _ _ _ q.2 (Keeps.refl _) rh rfl⟩
  · obtain ⟨a, vs, rfl, s1, t1⟩ := r1
    cases r2
    obtain ⟨⟨c1, c2, c3, c4⟩, q⟩ := q
    rename_i k
    refine op_repT pins s σ H _ _ v u Q I rx ry ⟨a, k, vs, rfl, rfl, s1, fun e => c1 (t1.eq_nil.mp e), c2, c3, by rw [t1.length]; exact c4, fun p np => ?_⟩
    have n := RH.newT (vs := (List.replicate k.toNat vs).flatten) rh np
    exact f _ _ _ _ q n.1 n.2 (RD.newT np (t1.rep _))
  · cases r1; cases r2
    obtain ⟨xs, e1, ⟨c1, c2, c3⟩, q⟩ := of_lstAt q
    obtain ⟨vs, g1, t1⟩ := rh.lst e1
    refine op_rep pins s σ H _ _ v u Q I rx ry ⟨_, _, vs, rfl, rfl, g1, c1, c2, by rw [t1.length]; exact c3, fun p np => ?_⟩
    rename_i k _
    have n := RH.newL rh np (t1.rep k.toNat)
    exact f _ _ _ _ (q p (rh.free np)) n.1 n.2 rfl
  · exact q.elim
def dNeg : D → DH → DK → Prop
  | .int i, h, P => P (.int (-i)) h
  | _, _, _ => False
def dUn (r : D → DH → DK → Prop) (t : DTE) : DTE := fun σ h P => t σ h fun x h1 => r x h1 P
theorem de_neg {a : Expr} {ta : DTE} {pos : Pos} (ha : DE X a ta) : DE X (.UnaryOp .USub a pos) (dUn dNeg ta) := by
  refine ⟨peImp (pe_un un_neg ha.pe) ?_⟩
  rintro σ H Q ⟨dσ, h, P, rs, rh, q, f⟩
  refine ⟨dσ, h, _, rs, rh, q, fun d h1 v H1 q1 k1 rh1 r1 => ?_⟩
  unfold dNeg at q1
  split at q1
  · cases r1; exact ⟨_, rfl, f _ _ _ _ q1 k1 rh1 rfl⟩
  · exact q1.elim

/-! ### comparisons -/
def eqS : D → D → Option Bool
  | .int i, .int j => some (decide (i = j))
  | .str i, .str j => some (decide (i = j))
  | .bl i, .bl j => some (decide (i = j))
  | .non, .non => some true
  | .non, .int _ => some false
  | .int _, .non => some false
  | .non, .str _ => some false
  | .str _, .non => some false
  | .non, .bl _ => some false
  | .bl _, .non => some false
  | .int _, .str _ => some false
  | .str _, .int _ => some false
  | .bl _, .str _ => some false
  | .str _, .bl _ => some false
  | _, _ => none
def vS : D → Option V
  | .int i => some (.int i)
  | .str i => some (.str i)
  | .bl i => some (.bl i)
  | .non => some .non
  | _ => none
theorem eqS_ok {x y : D} {b : Bool} (h : eqS x y = some b) : ∃ v u, vS x = some v ∧ vS y = some u ∧ scal v u = true ∧ decide (v = u) = b := by
  unfold eqS at h
  split at h <;> first
    | (cases h; exact ⟨_, _, rfl, rfl, rfl, by simp⟩)
    | cases h
theorem vS_ok {K : PySem.W.Frag} {ω : World} {H : Hp} {x : D} {v w : V} (h : vS x = some v) (r : RD K ω H x w) : w = v := by
  unfold vS at h
  split at h <;> first
    | (cases h; exact r)
    | cases h
def dEq : DR2 := fun x y h P => match eqS x y with
  | some b => P (.bl b) h
  | none => False
def dNe : DR2 := fun x y h P => match eqS x y with
  | some b => P (.bl (!b)) h
  | none => False
theorem op_dEq : DOp X (compareOp .Eq) dEq := by
  intro pins s σ H x y v u Q I rx ry q
  obtain ⟨dx, dy, h, P, r1, r2, rh, q, f⟩ := q
  unfold dEq at q
  split at q
  · rename_i b e
    obtain ⟨v', u', e1, e2, sc, ed⟩ := eqS_ok e
    rw [vS_ok e1 r1] at rx; rw [vS_ok e2 r2] at ry
    exact op_eq pins s σ H _ _ v u Q I rx ry ⟨sc, by rw [ed]; exact f _ _ _ _ q (Keeps.refl _) rh rfl⟩
  · exact q.elim
theorem op_dNe : DOp X (compareOp .NotEq) dNe := by
  intro pins s σ H x y v u Q I rx ry q
  obtain ⟨dx, dy, h, P, r1, r2, rh, q, f⟩ := q
  unfold dNe at q
  split at q
  · rename_i b e
    obtain ⟨v', u', e1, e2, sc, ed⟩ := eqS_ok e
    rw [vS_ok e1 r1] at rx; rw [vS_ok e2 r2] at ry
    exact op_ne pins s σ H _ _ v u Q I rx ry ⟨sc, by rw [ed]; exact f _ _ _ _ q (Keeps.refl _) rh rfl⟩
  · exact q.elim
def dB2 (g : Int → Int → Bool) : DR2
  | .int i, .int j, h, P => P (.bl (g i j)) h
  | _, _, _, _ => False
theorem op_dB {f : Value → Value → Sem Value} {g : Int → Int → Bool} (ho : OpR X f (rI0 fun i j => .bl (g i j))) : DOp X f (dB2 g) := by
  intro pins s σ H x y v u Q I rx ry q
  obtain ⟨dx, dy, h, P, r1, r2, rh, q, fn⟩ := q
  unfold dB2 at q
  split at q
  · cases r1; cases r2
    exact ho pins s σ H _ _ v u Q I rx ry ⟨_, _, rfl, rfl, fn _ _ _ _ q (Keeps.refl _) rh rfl⟩
  · exact q.elim
abbrev dLt : DR2 := dB2 fun i j => decide (i < j)
abbrev dLe : DR2 := dB2 fun i j => decide (i ≤ j)
abbrev dGt : DR2 := dB2 fun i j => decide (j < i)
abbrev dGe : DR2 := dB2 fun i j => decide (j ≤ i)
theorem op_dLt : DOp X (compareOp .Lt) dLt := op_dB op_lt
theorem op_dLe : DOp X (compareOp .LtE) dLe := op_dB op_le
theorem op_dGt : DOp X (compareOp .Gt) dGt := op_dB op_gt
theorem op_dGe : DOp X (compareOp .GtE) dGe := op_dB op_ge
/-- is None -/
def isN : D → Bool
  | .non => true
  | _ => false
theorem isN_ok {K : PySem.W.Frag} {ω : World} {H : Hp} {x : D} {v : V} (r : RD K ω H x v) : decide (v = .non) = isN x := by
  cases x with
  | non => cases r; rfl
  | bl _ => cases r; rfl
  | int _ => cases r; rfl
  | str _ => cases r; rfl
  | ref _ => cases r; rfl
  | ty _ => cases r; rfl
  | rng _ _ => obtain ⟨a, rfl, _⟩ := r; rfl
  | rod _ _ => obtain ⟨a, o, xs, us, vs, rfl, _⟩ := r; rfl
  | obj _ _ _ => obtain ⟨a, o, dx, us, rfl, _⟩ := r; rfl
  | tup _ => obtain ⟨a, vs, rfl, _⟩ := r; rfl
  | rol _ => obtain ⟨a, vs, rfl, _⟩ := r; rfl
def dIs : DR2
  | x, .non, h, P => P (.bl (isN x)) h
  | _, _, _, _ => False
def dIsNot : DR2
  | x, .non, h, P => P (.bl (!isN x)) h
  | _, _, _, _ => False
theorem op_dIs : DOp X (compareOp .Is) dIs := by
  intro pins s σ H x y v u Q I rx ry q
  obtain ⟨dx, dy, h, P, r1, r2, rh, q, fn⟩ := q
  unfold dIs at q
  split at q
  · cases r2
    exact op_isN pins s σ H _ _ v u Q I rx ry ⟨rfl, fn _ _ _ _ q (Keeps.refl _) rh (by rw [isN_ok r1]; rfl)⟩
  · exact q.elim
theorem op_dIsNot : DOp X (compareOp .IsNot) dIsNot := by
  intro pins s σ H x y v u Q I rx ry q
  obtain ⟨dx, dy, h, P, r1, r2, rh, q, fn⟩ := q
  unfold dIsNot at q
  split at q
  · cases r2
    exact op_notN pins s σ H _ _ v u Q I rx ry ⟨rfl, fn _ _ _ _ q (Keeps.refl _) rh (by rw [isN_ok r1]; rfl)⟩
  · exact q.elim
/-- one text within another -/
def inStr (x y : Str) : Bool := !(Builtin.Str.occurrences y x 0 y.length 1).isEmpty
theorem inStr_one (c : Nat) (z : Str) : inStr ⟨#[c]⟩ z = decide (c ∈ z.cps.toList) := PySem.StrLaws.found_one z c
end
end DL
/-! D4: subscripts, slices, displays, calls of built-ins, methods: by data. -/
namespace DL
open PySem PySem.Spec PyProof.Rows L2

section
variable {X : Cx} {a b c e : Expr} {ta tb tc t : DTE} {pos : Pos}

theorem RDs.atI {K : PySem.W.Frag} {ω : World} {H : Hp} {ds : List D} {vs : List V} {i : Int} {d : D} (r : RDs K ω H ds vs) (e : atI ds i = some d) : ∃ v, L2.atI vs i = some v ∧ RD K ω H d v := by
  unfold L2.atI at e ⊢
  rw [r.length]
  cases q : ixN ds.length i with
  | none => rw [q] at e; cases e
  | some j =>
    rw [q] at e
    exact RDs.get r e

/-! ### subscripts -/
def oAt (o : Option D) (k : D → Prop) : Prop := match o with
  | some d => k d
  | none => False
theorem of_oAt {o : Option D} {k : D → Prop} (q : oAt o k) : ∃ d, o = some d ∧ k d := by
  unfold oAt at q
  split at q
  · exact ⟨_, rfl, q⟩
  · exact q.elim
theorem oAt_of {o : Option D} {k : D → Prop} {d : D} (e : o = some d) (q : k d) : oAt o k := by rw [e]; exact q
def dIx : DR2
  | .tup xs, .int i, h, P => oAt (atI xs i) fun d => P d h
  | .rol xs, .int i, h, P => oAt (atI xs i) fun d => P d h
  | .ref a, .int i, h, P => lstAt h a fun xs => oAt (atI xs i) fun d => P d h
  | .str z, .int i, h, P => z.length ≤ sizeLine ∧ (match atI z.cps.toList i with | some c => P (.str ⟨#[c]⟩) h | none => False)
  | _, _, _, _ => False
theorem ix_d : IxR X (LR X.K X.w dIx) := by
  intro value slice pins s σ H x y v u Q I rx ry q hs
  obtain ⟨dx, dy, h, P, r1, r2, rh, q, f⟩ := q
  unfold dIx at q
  split at q
  · obtain ⟨a, vs, rfl, s1, t1⟩ := r1
    cases r2
    obtain ⟨d, e, q⟩ := of_oAt q
    obtain ⟨v', e', r⟩ := t1.atI e
    exact ix_tup value slice pins s σ H _ _ v u Q I rx ry ⟨a, vs, _, v', rfl, rfl, s1, e', f _ _ _ _ q (Keeps.refl _) rh r⟩ hs
  · obtain ⟨a, vs, rfl, s1, t1⟩ := r1
    cases r2
    obtain ⟨d, e, q⟩ := of_oAt q
    obtain ⟨v', e', r⟩ := t1.atI e
    exact ix_list value slice pins s σ H _ _ v u Q I rx ry ⟨a, vs, _, v', rfl, rfl, s1.sq, e', f _ _ _ _ q (Keeps.refl _) rh r⟩ hs
  · cases r1; cases r2
    obtain ⟨xs, e1, q⟩ := of_lstAt q
    obtain ⟨d, e, q⟩ := of_oAt q
    obtain ⟨vs, g1, t1⟩ := rh.lst e1
    obtain ⟨v', e', r⟩ := t1.atI e
    exact ix_list value slice pins s σ H _ _ v u Q I rx ry ⟨_, vs, _, v', rfl, rfl, SqL.of g1, e', f _ _ _ _ q (Keeps.refl _) rh r⟩ hs
  · cases r1; cases r2
    obtain ⟨z1, q⟩ := q
    split at q
    · rename_i c e
      exact ix_str value slice pins s σ H _ _ v u Q I rx ry ⟨_, _, c, rfl, rfl, z1, e, f _ _ _ _ q (Keeps.refl _) rh rfl⟩ hs
    · exact q.elim
  · exact q.elim
theorem de_ix (ha : DE X a ta) (hb : DE X b tb) (hs : PlainIx b := by intro _ _; rfl) : DE X (.Subscript a b pos) (dOp dIx ta tb) := ⟨peImp (pe_ix ix_d ha.pe hb.pe hs) fun _ _ _ q => lift2 q⟩

/-! ### slices -/
abbrev DTO := DSt → DH → (Option Int → DH → Prop) → Prop
def LO (K : PySem.W.Frag) (w : World) (t : DTO) : TO := fun σ H Q => ∃ dσ h P, RS K w H dσ σ ∧ RH K w H h ∧ t dσ h P ∧ ∀ b h' H', P b h' → Keeps H H' → RH K w H' h' → Q b H'
structure DOp' (X : Cx) (e : Option Expr) (t : DTO) : Prop where
  po : PO X e (LO X.K X.w t)
theorem poImp {X : Cx} {e : Option Expr} {t t' : TO} (h : PO X e t) (i : ∀ σ H Q, t' σ H Q → t σ H Q) : PO X e t' := ⟨fun pins s σ H Q I q => h.run pins s σ H Q I (i σ H Q q)⟩
def asI (k : Int → DH → Prop) : DK := fun d h => match d with
  | .int b => k b h
  | _ => False
theorem asI_of {k : Int → DH → Prop} {d : D} {h : DH} (q : asI k d h) : ∃ b, d = .int b ∧ k b h := by
  unfold asI at q
  split at q
  · exact ⟨_, rfl, q⟩
  · exact q.elim
def dNoPart : DTO := fun _ h P => P none h
def dPart (t : DTE) : DTO := fun σ h P => t σ h (asI fun i h' => P (some i) h')
theorem do_none : DOp' X none dNoPart := ⟨poImp po_none fun σ H Q ⟨dσ, h, P, rs, rh, q, f⟩ => f _ _ _ q (Keeps.refl _) rh⟩
theorem do_some (he : DE X e t) : DOp' X (some e) (dPart t) := by
  refine ⟨poImp (po_some he.pe) ?_⟩
  rintro σ H Q ⟨dσ, h, P, rs, rh, q, f⟩
  refine ⟨dσ, h, _, rs, rh, q, fun d h1 v H1 q1 k1 rh1 r1 => ?_⟩
  obtain ⟨i, rfl, q2⟩ := asI_of q1
  exact ⟨i, r1, f _ _ _ q2 k1 rh1⟩
def cutD (xs : List D) (lo hi : Option Int) : List D := (xs.drop (HT.sIx xs.length 0 lo)).take (HT.sIx xs.length xs.length hi - HT.sIx xs.length 0 lo)
theorem RDs.cut {K : PySem.W.Frag} {ω : World} {H : Hp} {ds : List D} {vs : List V} (r : RDs K ω H ds vs) (lo hi : Option Int) : RDs K ω H (cutD ds lo hi) (cutV vs lo hi) := by
  unfold cutD cutV
  rw [r.length]
  exact RDs.take _ (RDs.drop _ r)
def dCut (x : D) (lo hi : Option Int) (h : DH) (P : DK) : Prop := match x with
  | .tup xs => P (.tup (cutD xs lo hi)) h
  | .rol xs => fresh h (.lst (cutD xs lo hi)) fun p h' => P (.ref p) h'
  | .ref a => lstAt h a fun xs => fresh h (.lst (cutD xs lo hi)) fun p h' => P (.ref p) h'
  | .str z => z.length ≤ sizeLine ∧ P (.str (cutS z lo hi)) h
  | _ => False
theorem cut_whole {vs : List V} {lo hi : Option Int} (e : HT.sIx vs.length 0 lo = 0 ∧ HT.sIx vs.length vs.length hi = vs.length) : cutV vs lo hi = vs := by
  unfold cutV
  rw [e.1, e.2, Nat.sub_zero, List.drop_zero, List.take_length]
theorem sl_d : SlR X (fun x lo hi H Q => ∃ dx h P, RD X.K X.w H dx x ∧ RH X.K X.w H h ∧ dCut dx lo hi h P ∧ Fin X.K X.w H P Q) := by
  intro pins s σ H x v vl vu lo hi sl Q I rx hs pl pu q
  obtain ⟨dx, h, P, r1, rh, q, f⟩ := q
  unfold dCut at q
  split at q
  · obtain ⟨a, vs, rfl, s1, t1⟩ := r1
    refine sl_tupA pins s σ H _ v vl vu lo hi sl Q I rx hs pl pu ⟨a, vs, rfl, s1, fun e => ?_, fun e p np => ?_⟩
    · refine f _ _ _ _ q (Keeps.refl _) rh ⟨a, vs, rfl, s1, ?_⟩
      have := t1.cut lo hi
      rw [cut_whole e] at this
      exact this
    · have n := RH.newT (vs := cutV vs lo hi) rh np
      exact f _ _ _ _ q n.1 n.2 (RD.newT np (t1.cut lo hi))
  · obtain ⟨a, vs, rfl, s1, t1⟩ := r1
    refine sl_list pins s σ H _ v vl vu lo hi sl Q I rx hs pl pu ⟨a, vs, rfl, s1.sq, fun p np => ?_⟩
    have n := RH.newL rh np (t1.cut lo hi)
    exact f _ _ _ _ (q p (rh.free np)) n.1 n.2 rfl
  · cases r1
    obtain ⟨xs, e1, q⟩ := of_lstAt q
    obtain ⟨vs, g1, t1⟩ := rh.lst e1
    refine sl_list pins s σ H _ v vl vu lo hi sl Q I rx hs pl pu ⟨_, vs, rfl, SqL.of g1, fun p np => ?_⟩
    have n := RH.newL rh np (t1.cut lo hi)
    exact f _ _ _ _ (q p (rh.free np)) n.1 n.2 rfl
  · cases r1
    exact sl_str pins s σ H _ v vl vu lo hi sl Q I rx hs pl pu ⟨_, rfl, q.1, f _ _ _ _ q.2 (Keeps.refl _) rh rfl⟩
  · exact q.elim
def dSl (t : DTE) (tl th : DTO) : DTE := fun σ h P => t σ h fun x h1 => tl σ h1 fun l h2 => th σ h2 fun u h3 => dCut x l u h3 P
theorem de_sl {lo hi : Option Expr} {tl th : DTO} {p2 : Pos} (he : DE X e t) (hl : DOp' X lo tl) (hu : DOp' X hi th) : DE X (.Subscript e (.Slice lo hi none p2) pos) (dSl t tl th) := by
  refine ⟨peImp (pe_slice sl_d he.pe hl.po hu.po) ?_⟩
  rintro σ H Q ⟨dσ, h, P, rs, rh, q, f⟩
  refine ⟨dσ, h, _, rs, rh, q, fun x h1 v H1 q1 k1 rh1 rx => ?_⟩
  refine ⟨dσ, h1, _, rs.keep k1, rh1, q1, fun l h2 H2 q2 k2 rh2 => ?_⟩
  refine ⟨dσ, h2, _, rs.keep (k1.trans k2), rh2, q2, fun u h3 H3 q3 k3 rh3 => ?_⟩
  exact ⟨x, h3, P, RD.keep (k2.trans k3) _ _ rx, rh3, q3, f.keep (k1.trans (k2.trans k3))⟩

/-! ### arguments, displays -/
def dNil : DTA := fun _ h P => P [] h
def dCons (t : DTE) (r : DTA) : DTA := fun σ h P => t σ h fun x h1 => r σ h1 fun xs h2 => P (x :: xs) h2
theorem da_nil : DA X [] dNil := ⟨paImp pa_nil fun σ H Q ⟨dσ, h, P, rs, rh, q, f⟩ => f _ _ _ _ q (Keeps.refl _) rh rfl⟩
theorem da_cons {es : List Expr} {r : DTA} (he : DE X e t) (hr : DA X es r) (hs : starEach (e :: es) X.env = (false, eval e X.env) :: starEach es X.env := by rfl) : DA X (e :: es) (dCons t r) := by
  refine ⟨paImp (pa_cons he.pe hr.pa hs) ?_⟩
  rintro σ H Q ⟨dσ, h, P, rs, rh, q, f⟩
  refine ⟨dσ, h, _, rs, rh, q, fun x h1 v H1 q1 k1 rh1 rx => ?_⟩
  refine ⟨dσ, h1, _, rs.keep k1, rh1, q1, fun xs h2 vs H2 q2 k2 rh2 rxs => ?_⟩
  exact f _ _ _ _ q2 (k1.trans k2) rh2 ⟨v, vs, rfl, RD.keep k2 _ _ rx, rxs⟩
def dTup (t : DTA) : DTE := fun σ h P => t σ h fun xs h1 => xs.length ≤ sizeLine ∧ P (.tup xs) h1
def dLst (t : DTA) : DTE := fun σ h P => t σ h fun xs h1 => xs.length ≤ sizeLine ∧ fresh h1 (.lst xs) fun p h' => P (.ref p) h'
theorem de_tup {es : List Expr} {t : DTA} {x1} (h : DA X es t) : DE X (.Tuple es x1 pos) (dTup t) := by
  refine ⟨peImp (pe_tup h.pa) ?_⟩
  rintro σ H Q ⟨dσ, h, P, rs, rh, q, f⟩
  refine ⟨dσ, h, _, rs, rh, q, fun xs h1 vs H1 q1 k1 rh1 r => ⟨by rw [r.length]; exact q1.1, fun p np => ?_⟩⟩
  have n := RH.newT (vs := vs) rh1 np
  exact f _ _ _ _ q1.2 (k1.trans n.1) n.2 (RD.newT np r)
theorem de_lst {es : List Expr} {t : DTA} (h : DA X es t) : DE X (.List es pos) (dLst t) := by
  refine ⟨peImp (pe_lst h.pa) ?_⟩
  rintro σ H Q ⟨dσ, h, P, rs, rh, q, f⟩
  refine ⟨dσ, h, _, rs, rh, q, fun xs h1 vs H1 q1 k1 rh1 r => ⟨by rw [r.length]; exact q1.1, fun p np => ?_⟩⟩
  have n := RH.newL rh1 np r
  exact f _ _ _ _ (q1.2 p (rh1.free np)) (k1.trans n.1) n.2 rfl

/-! ### calls of what is built in -/
abbrev DRC := List D → DH → DK → Prop
def LC (K : PySem.W.Frag) (w : World) (r : DRC) : List V → Hp → VK → Prop := fun xs H Q => ∃ ds h P, RDs K w H ds xs ∧ RH K w H h ∧ r ds h P ∧ Fin K w H P Q
abbrev DCall (X : Cx) (f : Value) (r : DRC) : Prop := CallR X f (LC X.K X.w r)
def dCall (r : DRC) (t : DTA) : DTE := fun σ h P => t σ h fun xs h1 => r xs h1 P
theorem liftCB {K : PySem.W.Frag} {w : World} {r : DRC} {t : DTA} {σ : L2.St} {H : Hp} {Q : VK} (q : LE K w (dCall r t) σ H Q) : tCB (LC K w r) (LA K w t) σ H Q := by
  obtain ⟨dσ, h, P, rs, rh, q, f⟩ := q
  refine ⟨dσ, h, _, rs, rh, q, fun xs h1 vs H1 q1 k1 rh1 rx => ?_⟩
  exact ⟨xs, h1, P, rx, rh1, q1, f.keep k1⟩
theorem de_callB {id : String} {r : DRC} {x : Str} {es : List Expr} {t : DTA} {p : Pos} (hc : DCall X (.builtin id) r) (hg : Gl X x) (hm : X.mg x = none) (hv : bootBuiltins x = some (.builtin id)) (ha : DA X (e :: es) t) (hn : x ≠ "__name__" := by decide) (hdb : (x == ("__debug__" : Str)) = false := by decide)
    (he : starEach (e :: es) X.env = (false, eval e X.env) :: starEach es X.env := by rfl) (hpl : (backTo pos (starEach es X.env)).any (·.1) = false := by rfl) : DE X (.Call (.Name x p) (e :: es) [] pos) (dCall r t) :=
  ⟨peImp (pe_callB hc hg hm hv ha.pa hn hdb he hpl) fun _ _ _ q => liftCB q⟩
theorem de_callTy {T : String} {r : DRC} {x : Str} {es : List Expr} {t : DTA} {p : Pos} (hc : DCall X (.type T) r) (hg : Gl X x) (hm : X.mg x = none) (hv : bootBuiltins x = some (.type T)) (ha : DA X (e :: es) t) (hn : x ≠ "__name__" := by decide) (hdb : (x == ("__debug__" : Str)) = false := by decide)
    (he : starEach (e :: es) X.env = (false, eval e X.env) :: starEach es X.env := by rfl) (hpl : (backTo pos (starEach es X.env)).any (·.1) = false := by rfl) : DE X (.Call (.Name x p) (e :: es) [] pos) (dCall r t) :=
  ⟨peImp (pe_callTy hc hg hm hv ha.pa hn hdb he hpl) fun _ _ _ q => liftCB q⟩
theorem RDs.one {K : PySem.W.Frag} {ω : World} {H : Hp} {d : D} {vs : List V} (r : RDs K ω H [d] vs) : ∃ v, vs = [v] ∧ RD K ω H d v := by
  obtain ⟨v, r', e, h1, h2⟩ := r
  rw [RDs.nil_ h2] at e
  exact ⟨v, e, h1⟩
theorem RDs.two {K : PySem.W.Frag} {ω : World} {H : Hp} {d d' : D} {vs : List V} (r : RDs K ω H [d, d'] vs) : ∃ v u, vs = [v, u] ∧ RD K ω H d v ∧ RD K ω H d' u := by
  obtain ⟨v, r', e, h1, h2⟩ := r
  obtain ⟨u, e2, h3⟩ := h2.one
  subst e2
  exact ⟨v, u, e, h1, h3⟩

def dLen : DRC
  | [.str z], h, P => z.length ≤ sizeLine ∧ P (.int z.length) h
  | [.tup xs], h, P => P (.int xs.length) h
  | [.rol xs], h, P => P (.int xs.length) h
  | [.ref a], h, P => lstAt h a fun xs => P (.int xs.length) h
  | _, _, _ => False
theorem call_dLen : DCall X (.builtin "len") dLen := by
  intro pins s σ H xs us Q I rx q
  obtain ⟨ds, h, P, r, rh, q, f⟩ := q
  unfold dLen at q
  split at q
  · obtain ⟨v, rfl, rv⟩ := r.one
    cases rv
    exact call_len_str pins s σ H _ us Q I rx ⟨_, rfl, q.1, f _ _ _ _ q.2 (Keeps.refl _) rh rfl⟩
  · obtain ⟨v, rfl, a, vs, rfl, s1, t1⟩ := r.one
    exact call_len_seq pins s σ H _ us Q I rx ⟨a, vs, rfl, .inr s1, f _ _ _ _ q (Keeps.refl _) rh (by rw [t1.length]; rfl)⟩
  · obtain ⟨v, rfl, a, vs, rfl, s1, t1⟩ := r.one
    exact call_len_seq pins s σ H _ us Q I rx ⟨a, vs, rfl, .inl s1.sq, f _ _ _ _ q (Keeps.refl _) rh (by rw [t1.length]; rfl)⟩
  · obtain ⟨v, rfl, rv⟩ := r.one
    cases rv
    obtain ⟨ys, e1, q⟩ := of_lstAt q
    obtain ⟨vs, g1, t1⟩ := rh.lst e1
    exact call_len_seq pins s σ H _ us Q I rx ⟨_, vs, rfl, .inl (SqL.of g1), f _ _ _ _ q (Keeps.refl _) rh (by rw [t1.length]; rfl)⟩
  · exact q.elim
def dAbs : DRC
  | [.int i], h, P => P (.int (if i < 0 then -i else i)) h
  | _, _, _ => False
theorem call_dAbs : DCall X (.builtin "abs") dAbs := by
  intro pins s σ H xs us Q I rx q
  obtain ⟨ds, h, P, r, rh, q, f⟩ := q
  unfold dAbs at q
  split at q
  · obtain ⟨v, rfl, rv⟩ := r.one
    cases rv
    exact call_abs pins s σ H _ us Q I rx ⟨_, rfl, f _ _ _ _ q (Keeps.refl _) rh rfl⟩
  · exact q.elim
def dInt : DRC
  | [.int i], h, P => P (.int i) h
  | [.bl k], h, P => P (.int (if k = true then 1 else 0)) h
  | _, _, _ => False
theorem call_dInt : DCall X (.type "int") dInt := by
  intro pins s σ H xs us Q I rx q
  obtain ⟨ds, h, P, r, rh, q, f⟩ := q
  unfold dInt at q
  split at q
  · obtain ⟨v, rfl, rv⟩ := r.one
    cases rv
    exact call_int1 pins s σ H _ us Q I rx (.inl ⟨_, rfl, f _ _ _ _ q (Keeps.refl _) rh rfl⟩)
  · obtain ⟨v, rfl, rv⟩ := r.one
    cases rv
    exact call_int1 pins s σ H _ us Q I rx (.inr ⟨_, rfl, f _ _ _ _ q (Keeps.refl _) rh rfl⟩)
  · exact q.elim
/-- tuple(xs) -/
def dTupOf : DRC
  | [.tup xs], h, P => P (.tup xs) h
  | [.rol xs], h, P => P (.tup xs) h
  | [.ref a], h, P => lstAt h a fun xs => P (.tup xs) h
  | _, _, _ => False
theorem call_dTupOf : DCall X (.type "tuple") dTupOf := by
  intro pins s σ H xs us Q I rx q
  obtain ⟨ds, h, P, r, rh, q, f⟩ := q
  unfold dTupOf at q
  split at q
  · obtain ⟨v, rfl, a, vs, rfl, s1, t1⟩ := r.one
    exact call_tuple_of pins s σ H _ us Q I rx ⟨a, vs, rfl, .inr ⟨s1, f _ _ _ _ q (Keeps.refl _) rh ⟨a, vs, rfl, s1, t1⟩⟩⟩
  · obtain ⟨v, rfl, a, vs, rfl, s1, t1⟩ := r.one
    refine call_tuple_of pins s σ H _ us Q I rx ⟨a, vs, rfl, .inl ⟨s1.sq, fun p np => ?_⟩⟩
    have n := RH.newT (vs := vs) rh np
    exact f _ _ _ _ q n.1 n.2 (RD.newT np t1)
  · obtain ⟨v, rfl, rv⟩ := r.one
    cases rv
    obtain ⟨ys, e1, q⟩ := of_lstAt q
    obtain ⟨vs, g1, t1⟩ := rh.lst e1
    refine call_tuple_of pins s σ H _ us Q I rx ⟨_, vs, rfl, .inl ⟨SqL.of g1, fun p np => ?_⟩⟩
    have n := RH.newT (vs := vs) rh np
    exact f _ _ _ _ q n.1 n.2 (RD.newT np t1)
  · exact q.elim
/-- all the items are flags -/
def allB : List D → Option (List Bool)
  | [] => some []
  | .bl b :: r => (allB r).map fun bs => b :: bs
  | _ :: _ => none
def allI : List D → Option (List Int)
  | [] => some []
  | .int b :: r => (allI r).map fun bs => b :: bs
  | _ :: _ => none
def allS : List D → Option (List Str)
  | [] => some []
  | .str b :: r => (allS r).map fun bs => b :: bs
  | _ :: _ => none
theorem allB_map : ∀ bs : List Bool, allB (bs.map D.bl) = some bs
  | [] => rfl
  | b :: r => by rw [List.map_cons, allB, allB_map r]; rfl
theorem allI_map : ∀ bs : List Int, allI (bs.map D.int) = some bs
  | [] => rfl
  | b :: r => by rw [List.map_cons, allI, allI_map r]; rfl
theorem allS_map : ∀ bs : List Str, allS (bs.map D.str) = some bs
  | [] => rfl
  | b :: r => by rw [List.map_cons, allS, allS_map r]; rfl
theorem allB_vs {K : PySem.W.Frag} {ω : World} {H : Hp} : ∀ {ds : List D} {vs : List V} {bs : List Bool}, allB ds = some bs → RDs K ω H ds vs → vs = bs.map V.bl
  | [], _, _, e, r => by cases e; rw [RDs.nil_ r]; rfl
  | .bl b :: ds, _, _, e, ⟨v, vs, e', h1, h2⟩ => by
    rw [allB] at e
    obtain ⟨bs', e1, rfl⟩ := Option.map_eq_some_iff.mp e
    cases h1
    rw [e', allB_vs e1 h2]; rfl
theorem allI_vs {K : PySem.W.Frag} {ω : World} {H : Hp} : ∀ {ds : List D} {vs : List V} {bs : List Int}, allI ds = some bs → RDs K ω H ds vs → vs = bs.map V.int
  | [], _, _, e, r => by cases e; rw [RDs.nil_ r]; rfl
  | .int b :: ds, _, _, e, ⟨v, vs, e', h1, h2⟩ => by
    rw [allI] at e
    obtain ⟨bs', e1, rfl⟩ := Option.map_eq_some_iff.mp e
    cases h1
    rw [e', allI_vs e1 h2]; rfl
theorem allS_vs {K : PySem.W.Frag} {ω : World} {H : Hp} : ∀ {ds : List D} {vs : List V} {bs : List Str}, allS ds = some bs → RDs K ω H ds vs → vs = bs.map V.str
  | [], _, _, e, r => by cases e; rw [RDs.nil_ r]; rfl
  | .str b :: ds, _, _, e, ⟨v, vs, e', h1, h2⟩ => by
    rw [allS] at e
    obtain ⟨bs', e1, rfl⟩ := Option.map_eq_some_iff.mp e
    cases h1
    rw [e', allS_vs e1 h2]; rfl
def dAll : DRC
  | [d], h, P => seqAt d h fun xs => ∃ bs, allB xs = some bs ∧ P (.bl (bs.all id)) h
  | _, _, _ => False
def dAny : DRC
  | [d], h, P => seqAt d h fun xs => ∃ bs, allB xs = some bs ∧ P (.bl (bs.any id)) h
  | _, _, _ => False
theorem call_dAll (hc : X.calm = true) : DCall X (.builtin "all") dAll := by
  intro pins s σ H xs us Q I rx q
  obtain ⟨ds, h, P, r, rh, q, f⟩ := q
  unfold dAll at q
  split at q
  · obtain ⟨v, rfl, rv⟩ := r.one
    obtain ⟨a, vs, ys, rfl, g1, t1, bs, e2, q⟩ := seq_of rh rv q
    rw [allB_vs e2 t1] at g1
    exact cr_all hc pins s σ H _ us Q I rx ⟨_, bs, rfl, g1, f _ _ _ _ q (Keeps.refl _) rh rfl⟩
  · exact q.elim
theorem call_dAny (hc : X.calm = true) : DCall X (.builtin "any") dAny := by
  intro pins s σ H xs us Q I rx q
  obtain ⟨ds, h, P, r, rh, q, f⟩ := q
  unfold dAny at q
  split at q
  · obtain ⟨v, rfl, rv⟩ := r.one
    obtain ⟨a, vs, ys, rfl, g1, t1, bs, e2, q⟩ := seq_of rh rv q
    rw [allB_vs e2 t1] at g1
    exact cr_any hc pins s σ H _ us Q I rx ⟨_, bs, rfl, g1, f _ _ _ _ q (Keeps.refl _) rh rfl⟩
  · exact q.elim
/-- the greatest of some numbers -/
def maxL : List Int → Int
  | [] => 0
  | x :: r => r.foldl max x
theorem foldl_max : ∀ (r : List Int) (x m : Int), (m = x ∨ m ∈ r) → x ≤ m → (∀ y ∈ r, y ≤ m) → r.foldl max x = m
  | [], x, m, h, h1, _ => by
    rcases h with h | h
    · exact h.symm
    · simp at h
  | y :: r, x, m, h, h1, h2 => by
    show r.foldl max (max x y) = m
    have hy := h2 y List.mem_cons_self
    refine foldl_max r (max x y) m ?_ (by omega) fun z hz => h2 z (List.mem_cons_of_mem _ hz)
    rcases h with h | h
    · left; omega
    · rcases List.mem_cons.mp h with h | h
      · left; omega
      · exact .inr h
theorem maxL_eq {ns : List Int} {m : Int} (h : m ∈ ns) (hm : ∀ y ∈ ns, y ≤ m) : maxL ns = m := by
  cases ns with
  | nil => simp at h
  | cons x r =>
    refine foldl_max r x m ?_ (hm x List.mem_cons_self) fun y hy => hm y (List.mem_cons_of_mem _ hy)
    exact List.mem_cons.mp h
def dMax : DRC
  | [d], h, P => seqAt d h fun xs => ∃ ns, allI xs = some ns ∧ 0 < ns.length ∧ P (.int (maxL ns)) h
  | [.int i, .int j], h, P => P (.int (if j > i then j else i)) h
  | _, _, _ => False
theorem call_dMax (hc : X.calm = true) : DCall X (.builtin "max") dMax := by
  intro pins s σ H xs us Q I rx q
  obtain ⟨ds, h, P, r, rh, q, f⟩ := q
  unfold dMax at q
  split at q
  · obtain ⟨v, rfl, rv⟩ := r.one
    obtain ⟨a, vs, ys, rfl, g1, t1, ns, e2, hl, q⟩ := seq_of rh rv q
    rw [allI_vs e2 t1] at g1
    exact cr_max hc pins s σ H _ us Q I rx ⟨_, ns, rfl, g1, hl, fun m hm hle => f _ _ _ _ q (Keeps.refl _) rh (by rw [maxL_eq hm hle]; rfl)⟩
  · obtain ⟨v, v', rfl, rv, rv'⟩ := r.two
    cases rv
    cases rv'
    exact call_max2 hc pins s σ H _ us Q I rx ⟨_, _, rfl, f _ _ _ _ q (Keeps.refl _) rh rfl⟩
  · exact q.elim
end
end DL
/-! D5: statements, targets, loops, list comprehensions. -/
namespace DL
open PySem PySem.Spec PyProof.Rows L2

section
variable {X : Cx} {st : Stmt} {rest : List Stmt} {t u : DTS} {e : Expr} {te : DTE} {pos : Pos}
def sNext : DTS := fun E σ h => E.nx σ h
def sSeq (t u : DTS) : DTS := fun E σ h => t { E with nx := u E } σ h
theorem dss_nil : DSs X [] sNext := ⟨pssImp pss_nil fun Q σ H ⟨dσ, h, E, rs, rh, q, f⟩ => f.nx _ _ _ _ q (Keeps.refl _) rh rs⟩
theorem dss_cons (h1 : DS X st t) (h2 : DSs X rest u) : DSs X (st :: rest) (sSeq t u) := by
  refine ⟨pssImp (pss_cons h1.ps h2.pss) ?_⟩
  rintro Q σ H ⟨dσ, h, E, rs, rh, q, f⟩
  refine ⟨dσ, h, _, rs, rh, q, ⟨fun dσ1 h1 σ1 H1 q1 k1 rh1 rs1 => ?_, f.rt, f.bk, f.ct⟩⟩
  exact ⟨dσ1, h1, E, rs1, rh1, q1, f.keep k1⟩
theorem dss_one (h1 : DS X st t) : DSs X [st] t := ⟨pssImp (pss_one h1.ps) fun _ _ _ q => q⟩
theorem ds_pass : DS X (.Pass pos) sNext := ⟨psImp ps_pass fun Q σ H ⟨dσ, h, E, rs, rh, q, f⟩ => f.nx _ _ _ _ q (Keeps.refl _) rh rs⟩
def sBreak : DTS := fun E σ h => E.bk σ h
def sCont : DTS := fun E σ h => E.ct σ h
theorem ds_break : DS X (.Break pos) sBreak := ⟨psImp ps_break fun Q σ H ⟨dσ, h, E, rs, rh, q, f⟩ => f.bk _ _ _ _ q (Keeps.refl _) rh rs⟩
theorem ds_continue : DS X (.Continue pos) sCont := ⟨psImp ps_continue fun Q σ H ⟨dσ, h, E, rs, rh, q, f⟩ => f.ct _ _ _ _ q (Keeps.refl _) rh rs⟩
theorem ds_doc {x j pos pos'} : DS X (.Expr (.Constant (.str x) j pos) pos') sNext := ⟨psImp ps_doc fun Q σ H ⟨dσ, h, E, rs, rh, q, f⟩ => f.nx _ _ _ _ q (Keeps.refl _) rh rs⟩
def sDrop (te : DTE) : DTS := fun E σ h => te σ h fun _ h1 => E.nx σ h1
theorem ds_expr (he : DE X e te) (hs : swapsWith e none pos.line X.env = pure false := by rfl) : DS X (.Expr e pos) (sDrop te) := by
  refine ⟨psImp (ps_expr he.pe hs) ?_⟩
  rintro Q σ H ⟨dσ, h, E, rs, rh, q, f⟩
  exact ⟨dσ, h, _, rs, rh, q, fun d h1 v H1 q1 k1 rh1 r1 => f.nx _ _ _ _ q1 k1 rh1 (rs.keep k1)⟩
def sRet (te : DTE) : DTS := fun E σ h => te σ h E.rt
theorem ds_ret (he : DE X e te) : DS X (.Return (some e) pos) (sRet te) := by
  refine ⟨psImp (ps_ret he.pe) ?_⟩
  rintro Q σ H ⟨dσ, h, E, rs, rh, q, f⟩
  exact ⟨dσ, h, _, rs, rh, q, f.rt⟩
def sRetN : DTS := fun E _ h => E.rt .non h
theorem ds_retN : DS X (.Return none pos) sRetN := ⟨psImp ps_retN fun Q σ H ⟨dσ, h, E, rs, rh, q, f⟩ => f.rt _ _ _ _ q (Keeps.refl _) rh rfl⟩
def sIf (c : DTT) (t u : DTS) : DTS := fun E σ h => c σ h fun b h1 => if b = true then t E σ h1 else u E σ h1
theorem ds_if {c : Expr} {a b : List Stmt} {tc : DTT} (hc : DT X c tc) (ha : DSs X a t) (hb : DSs X b u) : DS X (.If c a b pos) (sIf tc t u) := by
  refine ⟨psImp (ps_if hc.pt ha.pss hb.pss) ?_⟩
  rintro Q σ H ⟨dσ, h, E, rs, rh, q, f⟩
  refine ⟨dσ, h, _, rs, rh, q, fun b h1 H1 q1 k1 rh1 => ?_⟩
  cases b with
  | true => rw [if_pos rfl] at q1 ⊢; exact ⟨dσ, h1, E, rs.keep k1, rh1, q1, f.keep k1⟩
  | false => rw [if_neg Bool.false_ne_true] at q1 ⊢; exact ⟨dσ, h1, E, rs.keep k1, rh1, q1, f.keep k1⟩
def sNever : DTS := fun _ _ _ => False
theorem ds_never : DS X st sNever := ⟨psImp ps_never fun Q σ H ⟨dσ, h, E, rs, rh, q, f⟩ => q.elim⟩
theorem dss_never {sts : List Stmt} : DSs X sts sNever := ⟨pssImp pss_never fun Q σ H ⟨dσ, h, E, rs, rh, q, f⟩ => q.elim⟩
end

/-! ### targets -/
def SameOff (vs : List Nat) (σ σ' : L2.St) : Prop := σ'.length = σ.length ∧ ∀ j, j ∉ vs → σ'[j]? = σ[j]?
theorem SameOff.refl (vs : List Nat) (σ : L2.St) : SameOff vs σ σ := ⟨rfl, fun _ _ => rfl⟩
theorem SameOff.trans {vs ws : List Nat} {σ σ1 σ2 : L2.St} (a : SameOff vs σ σ1) (b : SameOff ws σ1 σ2) : SameOff (vs ++ ws) σ σ2 :=
  ⟨b.1.trans a.1, fun j hj => by rw [List.mem_append, not_or] at hj; rw [b.2 j hj.2, a.2 j hj.1]⟩
abbrev DTG := D → DSt → DH → (DSt → DH → Prop) → Prop
abbrev DTGs := List D → DSt → DH → (DSt → DH → Prop) → Prop
abbrev FinG (K : PySem.W.Frag) (w : World) (H : Hp) (vs : List Nat) (σ : L2.St) (P : DSt → DH → Prop) (Q : L2.St → Hp → Prop) : Prop :=
  ∀ dσ' h' σ' H', P dσ' h' → Keeps H H' → RH K w H' h' → RS K w H' dσ' σ' → SameOff vs σ σ' → Q σ' H'
def LG (K : PySem.W.Frag) (w : World) (vs : List Nat) (t : DTG) : TG := fun v σ H Q => ∃ d dσ h P, RD K w H d v ∧ RS K w H dσ σ ∧ RH K w H h ∧ t d dσ h P ∧ FinG K w H vs σ P Q
def LGs (K : PySem.W.Frag) (w : World) (vs : List Nat) (t : DTGs) : TGs := fun v σ H Q => ∃ d dσ h P, RDs K w H d v ∧ RS K w H dσ σ ∧ RH K w H h ∧ t d dσ h P ∧ FinG K w H vs σ P Q
structure DG (X : Cx) (vs : List Nat) (tg : Expr) (t : DTG) : Prop where
  pg : PG X tg (LG X.K X.w vs t)
structure DGs (X : Cx) (vs : List Nat) (tg : List Expr) (t : DTGs) : Prop where
  pgs : PGs X tg (LGs X.K X.w vs t)
theorem pgImp {X : Cx} {tg : Expr} {t t' : TG} (h : PG X tg t) (i : ∀ v σ H Q, t' v σ H Q → t v σ H Q) : PG X tg t' := ⟨fun pins s σ H v u Q I r q => h.run pins s σ H v u Q I r (i v σ H Q q)⟩
theorem pgsImp {X : Cx} {tg : List Expr} {t t' : TGs} (h : PGs X tg t) (i : ∀ v σ H Q, t' v σ H Q → t v σ H Q) : PGs X tg t' := ⟨fun pins s σ H v u Q I r q => h.run pins s σ H v u Q I r (i v σ H Q q)⟩
section
variable {X : Cx} {pos : Pos}
def gNm (i : Nat) : DTG := fun d σ h P => P (σ.set i (some d)) h
theorem dg_name {i : Nat} {x : Str} (hN : X.N.Nodup) (hi : X.N[i]? = some x) (hx : Loc X.env.scope x) (hf : X.fn x = true ∨ X.env.scope.names.lookup x = some .local := by first | exact .inl rfl | exact .inr rfl | assumption) : DG X [i] (.Name x pos) (gNm i) := by
  refine ⟨pgImp (pg_name hN hi hx hf) ?_⟩
  rintro v σ H Q ⟨d, dσ, h, P, r, rs, rh, q, f⟩
  exact f _ _ _ _ q (Keeps.refl _) rh (rs.set i r) ⟨by rw [List.length_set], fun j hj => List.getElem?_set_ne fun e => hj (by rw [e]; exact List.mem_singleton.mpr rfl)⟩
def gNl : DTGs := fun ds σ h P => match ds with
  | [] => P σ h
  | _ => False
def gCn (t : DTG) (u : DTGs) : DTGs := fun ds σ h P => match ds with
  | d :: r => t d σ h fun σ' h' => u r σ' h' P
  | _ => False
theorem dgs_nil : DGs X [] [] gNl := by
  refine ⟨pgsImp pgs_nil ?_⟩
  rintro v σ H Q ⟨d, dσ, h, P, r, rs, rh, q, f⟩
  unfold gNl at q
  split at q
  · exact ⟨r, f _ _ _ _ q (Keeps.refl _) rh rs (SameOff.refl _ _)⟩
  · exact q.elim
theorem dgs_cons {e : Expr} {es : List Expr} {vs ws : List Nat} {t : DTG} {u : DTGs} (h1 : DG X vs e t) (h2 : DGs X ws es u) (hs : (assignEach (e :: es) X.env).map (·.2) = assign e X.env :: (assignEach es X.env).map (·.2) := by rfl) :
    DGs X (vs ++ ws) (e :: es) (gCn t u) := by
  refine ⟨pgsImp (pgs_cons h1.pg h2.pgs hs) ?_⟩
  rintro v σ H Q ⟨d, dσ, h, P, r, rs, rh, q, f⟩
  unfold gCn at q
  split at q
  · obtain ⟨x, y, rfl, r1, r2⟩ := r
    refine ⟨x, y, rfl, _, dσ, h, _, r1, rs, rh, q, fun dσ1 h1 σ1 H1 q1 k1 rh1 rs1 so1 => ?_⟩
    exact ⟨_, dσ1, h1, P, RDs.keep k1 _ _ r2, rs1, rh1, q1, fun dσ2 h2 σ2 H2 q2 k2 rh2 rs2 so2 => f _ _ _ _ q2 (k1.trans k2) rh2 rs2 (so1.trans so2)⟩
  · exact q.elim
def gTp (n : Nat) (t : DTGs) : DTG := fun d σ h P => match d with
  | .tup ds => ds.length = n ∧ t ds σ h P
  | _ => False
theorem dg_tup {es : List Expr} {k : Nat} {vs : List Nat} {t : DTGs} {n : Nat} (hc : X.calm = true) (h : DGs X vs es t) (hn : (assignEach es X.env).length = n := by rfl) (hst : (assignEach es X.env).findIdx? (·.1) = none := by rfl) :
    DG X vs (.Tuple es k pos) (gTp n t) := by
  refine ⟨pgImp (pg_tup hc h.pgs hn hst) ?_⟩
  rintro v σ H Q ⟨d, dσ, h, P, r, rs, rh, q, f⟩
  unfold gTp at q
  split at q
  · obtain ⟨a, us, rfl, s, t1⟩ := r
    exact ⟨a, us, rfl, s, t1.length.trans q.1, _, dσ, h, P, t1, rs, rh, q.2, f⟩
  · exact q.elim
/-- o[i] = .. of a list -/
abbrev DSet := D → D → D → DH → (DH → Prop) → Prop
def LSet (K : PySem.W.Frag) (w : World) (r : DSet) : TSet := fun o i v H Q => ∃ d1 d2 d3 h P, RD K w H d1 o ∧ RD K w H d2 i ∧ RD K w H d3 v ∧ RH K w H h ∧ r d1 d2 d3 h P ∧ ∀ h' H', P h' → Keeps H H' → RH K w H' h' → Q H'
def gSb (to ti : DTE) (t : DSet) : DTG := fun v σ h P => to σ h fun o h1 => ti σ h1 fun i h2 => t o i v h2 fun h3 => P σ h3
theorem dg_sub {o i : Expr} {to ti : DTE} {t : DSet} (ho : DE X o to) (hi : DE X i ti) (hs : PSet X (LSet X.K X.w t))
    (ha : ∀ v, assign (.Subscript o i pos) X.env v = (do
      let ov ← holding [v] (eval o X.env)
      let iv ← holding [v, ov] (eval i X.env)
      standAt pos
      holding [v, ov, iv] (setItem ov iv v)
      release [v, ov, iv] []) := by intro _; rfl) : DG X [] (.Subscript o i pos) (gSb to ti t) := by
  refine ⟨pgImp (pg_sub ho.pe hi.pe hs ha) ?_⟩
  rintro v σ H Q ⟨d, dσ, h, P, r, rs, rh, q, f⟩
  refine ⟨dσ, h, _, rs, rh, q, fun x h1 v1 H1 q1 k1 rh1 r1 => ?_⟩
  refine ⟨dσ, h1, _, rs.keep k1, rh1, q1, fun y h2 v2 H2 q2 k2 rh2 r2 => ?_⟩
  refine ⟨x, y, d, h2, _, RD.keep k2 _ _ r1, r2, RD.keep (k1.trans k2) _ _ r, rh2, q2, fun h3 H3 q3 k3 rh3 => ?_⟩
  have k := k1.trans (k2.trans k3)
  exact f _ _ _ _ q3 k rh3 (rs.keep k) (SameOff.refl _ _)
def dSetL : DSet
  | .ref a, .int i, d, h, P => lstAt h a fun xs => ∃ j, ixN xs.length i = some j ∧ P (put h a (.lst (xs.set j d)))
  | _, _, _, _, _ => False
theorem set_d : PSet X (LSet X.K X.w dSetL) := by
  intro pins s σ H o i v ov iv u Q I ro ri rv q
  obtain ⟨d1, d2, d3, h, P, r1, r2, r3, rh, q, f⟩ := q
  unfold dSetL at q
  split at q
  · cases r1; cases r2
    obtain ⟨xs, e1, j, ej, q⟩ := of_lstAt q
    obtain ⟨vs, g1, t1⟩ := rh.lst e1
    have n := RH.setL rh g1 (t1.set r3 j)
    exact set_list pins s σ H _ _ v ov iv u Q I ro ri rv ⟨_, vs, _, j, rfl, rfl, g1, by rw [t1.length]; exact ej, f _ _ q n.1 n.2⟩
  · exact q.elim

/-! ### assignments -/
def sAsg (te : DTE) (g : DTG) : DTS := fun E σ h => te σ h fun d h1 => g d σ h1 E.nx
theorem ds_asg {tg e : Expr} {te : DTE} {vs : List Nat} {g : DTG} (he : DE X e te) (hg : DG X vs tg g) (hs : swapsWithSole [tg] e pos.line X.env = pure false := by rfl) (hw : swappedStores [tg] e X.env = pure none := by rfl)
    (h1 : (assignEach [tg] X.env).map (·.2) = [assign tg X.env] := by rfl) : DS X (.Assign [tg] e pos) (sAsg te g) := by
  refine ⟨psImp (ps_asg he.pe hg.pg hs hw h1) ?_⟩
  rintro Q σ H ⟨dσ, h, E, rs, rh, q, f⟩
  refine ⟨dσ, h, _, rs, rh, q, fun d h1 v H1 q1 k1 rh1 r1 => ?_⟩
  exact ⟨d, dσ, h1, _, r1, rs.keep k1, rh1, q1, fun dσ2 h2 σ2 H2 q2 k2 rh2 rs2 _ => f.nx _ _ _ _ q2 (k1.trans k2) rh2 rs2⟩
theorem ds_set {i : Nat} {x : Str} {e : Expr} {te : DTE} {pos' : Pos} (hN : X.N.Nodup) (hi : X.N[i]? = some x) (hx : Loc X.env.scope x) (he : DE X e te) (hs : swapsWith e (some (.Name x pos')) pos.line X.env = pure false := by rfl)
    (hf : X.fn x = true ∨ X.env.scope.names.lookup x = some .local := by first | exact .inl rfl | exact .inr rfl | assumption) : DS X (.Assign [.Name x pos'] e pos) (sAsg te (gNm i)) := by
  refine ⟨psImp (ps_set hN hi hx he.pe hs hf) ?_⟩
  rintro Q σ H ⟨dσ, h, E, rs, rh, q, f⟩
  exact ⟨dσ, h, _, rs, rh, q, fun d h1 v H1 q1 k1 rh1 r1 => f.nx _ _ _ _ q1 k1 rh1 ((rs.keep k1).set i r1)⟩
def sPar (i j : Nat) (ta : DTA) : DTS := fun E σ h => ta σ h fun ds h1 => match ds with
  | [v, w] => E.nx ((σ.set i (some v)).set j (some w)) h1
  | _ => False
theorem ds_par {i j : Nat} {x y : Str} {a b : Expr} {ta : DTA} {px py pt : Pos} {kt k2 pt2} (hc : X.calm = true) (hN : X.N.Nodup) (hi : X.N[i]? = some x) (hj : X.N[j]? = some y) (hij : i ≠ j)
    (hx : X.env.scope.names.lookup x = some .local) (hy : X.env.scope.names.lookup y = some .local) (ha : DA X [a, b] ta)
    (hw : swappedStores [.Tuple [.Name x px, .Name y py] kt pt] (.Tuple [a, b] k2 pt2) X.env = pure (some [x, y]))
    (hs : swapsWithSole [.Tuple [.Name x px, .Name y py] kt pt] (.Tuple [a, b] k2 pt2) pos.line X.env = pure false := by rfl) :
    DS X (.Assign [.Tuple [.Name x px, .Name y py] kt pt] (.Tuple [a, b] k2 pt2) pos) (sPar i j ta) := by
  refine ⟨psImp (ps_par hc hN hi hj hij hx hy ha.pa hw hs) ?_⟩
  rintro Q σ H ⟨dσ, h, E, rs, rh, q, f⟩
  refine ⟨dσ, h, _, rs, rh, q, fun ds h1 vs H1 q1 k1 rh1 r1 => ?_⟩
  split at q1
  · obtain ⟨v, u, rfl, r2, r3⟩ := r1.two
    exact ⟨v, u, rfl, f.nx _ _ _ _ q1 k1 rh1 (((rs.keep k1).set i r2).set j r3)⟩
  · exact q1.elim
/-- name op= e -/
def sAug (i : Nat) (te : DTE) (r : DR2) : DTS := fun E σ h => match σ[i]? with
  | some (some x) => te σ h fun y h1 => r x y h1 fun z h2 => E.nx (σ.set i (some z)) h2
  | _ => False
theorem ds_aug {i : Nat} {x : Str} {e : Expr} {te : DTE} {op : Operator} {r : DR2} {pos' : Pos} (hN : X.N.Nodup) (hi : X.N[i]? = some x) (hx : Loc X.env.scope x) (he : DE X e te) (ho : DOp X (inplaceOp op) r)
    (hf : X.fn x = true ∨ X.env.scope.names.lookup x = some .local := by first | exact .inl rfl | exact .inr rfl | assumption) : DS X (.AugAssign (.Name x pos') op e pos) (sAug i te r) := by
  refine ⟨psImp (ps_aug hN hi hx he.pe (ti := LR X.K X.w r) ho hf) ?_⟩
  rintro Q σ H ⟨dσ, h, E, rs, rh, q, f⟩
  unfold sAug at q
  split at q
  · rename_i d ed
    obtain ⟨v, ev, rv⟩ := rs.2 _ _ ed
    refine ⟨v, ev, dσ, h, _, rs, rh, q, fun y h1 u H1 q1 k1 rh1 r1 => ?_⟩
    refine ⟨d, y, h1, _, RD.keep k1 _ _ rv, r1, rh1, q1, fun z h2 zv H2 q2 k2 rh2 r2 => ?_⟩
    exact f.nx _ _ _ _ q2 (k1.trans k2) rh2 ((rs.keep (k1.trans k2)).set i r2)
  · exact q.elim
end

/-! ### what is walked -/
abbrev DTI := DSt → DH → (List D → (DH → Prop) → DH → Prop) → Prop
/-- the iterator gives the items xs, one by one, while st holds -/
def ItOk (K : PySem.W.Frag) (w : World) (H1 : Hp) (J : It) (xs : List D) (st : DH → Prop) : Prop := ∀ H h, Keeps H1 H → RH K w H h → st h →
  (∀ i d, xs[i]? = some d → J.go i H ∧ ∀ x H', J.yld i H x H' → Keeps H H' ∧ RH K w H' h ∧ RD K w H' d x) ∧ J.stop xs.length H
def LI (K : PySem.W.Frag) (w : World) (t : DTI) : TI := fun σ H R => ∃ dσ h P, RS K w H dσ σ ∧ RH K w H h ∧ t dσ h P ∧ ∀ xs st h1 J H1, P xs st h1 → Keeps H H1 → RH K w H1 h1 → ItOk K w H1 J xs st → R J H1
structure DI (X : Cx) (tg e : Expr) (t : DTI) : Prop where
  pi : PI X tg e (LI X.K X.w t)
theorem piImp {X : Cx} {tg e : Expr} {t t' : TI} (h : PI X tg e t) (i : ∀ σ H R, t' σ H R → t σ H R) : PI X tg e t' := ⟨fun pins s σ H R I q => h.run pins s σ H R I (i σ H R q)⟩
section
variable {X : Cx} {tg e : Expr} {te : DTE} {pos : Pos}
/-- a list that stands -/
def iLs (te : DTE) : DTI := fun σ h P => te σ h fun d h1 => match d with
  | .ref a => lstAt h1 a fun xs => P xs (fun h => h a = some (.lst xs)) h1
  | .rol xs => P xs (fun _ => True) h1
  | _ => False
theorem di_list (he : DE X e te) : DI X tg e (iLs te) := by
  refine ⟨piImp (pi_list he.pe) ?_⟩
  rintro σ H R ⟨dσ, h, P, rs, rh, q, f⟩
  refine ⟨dσ, h, _, rs, rh, q, fun d h1 v H1 q1 k1 rh1 r1 => ?_⟩
  split at q1
  · cases r1
    obtain ⟨xs, e1, q1⟩ := of_lstAt q1
    obtain ⟨vs, g1, t1⟩ := rh1.lst e1
    refine ⟨_, rfl, ⟨vs, SqL.of g1⟩, f _ _ _ _ _ q1 k1 rh1 fun H2 h2 k2 rh2 s2 => ?_⟩
    obtain ⟨us, g2, t2⟩ := rh2.lst s2
    refine ⟨fun i d ed => ?_, ⟨us, SqL.of g2, by rw [t2.length]; exact Nat.le_refl _⟩⟩
    obtain ⟨u, eu, ru⟩ := t2.get ed
    refine ⟨⟨us, u, SqL.of g2, eu⟩, fun x H' y => ?_⟩
    obtain ⟨rfl, y⟩ := y
    have e3 : some u = some x := eu.symm.trans (y us (SqL.of g2))
    cases e3
    exact ⟨Keeps.refl _, rh2, ru⟩
  · obtain ⟨a, vs, rfl, s1, t1⟩ := r1
    refine ⟨_, rfl, ⟨vs, s1.sq⟩, f _ _ _ _ _ q1 k1 rh1 fun H2 h2 k2 rh2 _ => ?_⟩
    have s2 := SqF.keep k2 s1
    have t2 := RDs.keep k2 _ _ t1
    refine ⟨fun i d ed => ?_, ⟨vs, s2.sq, by rw [t1.length]; exact Nat.le_refl _⟩⟩
    obtain ⟨u, eu, ru⟩ := t2.get ed
    refine ⟨⟨vs, u, s2.sq, eu⟩, fun x H' y => ?_⟩
    obtain ⟨rfl, y⟩ := y
    have e3 : some u = some x := eu.symm.trans (y vs s2.sq)
    cases e3
    exact ⟨Keeps.refl _, rh2, ru⟩
  · exact q1.elim
def iTp (te : DTE) : DTI := fun σ h P => te σ h fun d h1 => match d with
  | .tup xs => P xs (fun _ => True) h1
  | _ => False
theorem di_tup (he : DE X e te) : DI X tg e (iTp te) := by
  refine ⟨piImp (pi_tup he.pe) ?_⟩
  rintro σ H R ⟨dσ, h, P, rs, rh, q, f⟩
  refine ⟨dσ, h, _, rs, rh, q, fun d h1 v H1 q1 k1 rh1 r1 => ?_⟩
  split at q1
  · obtain ⟨a, vs, rfl, s1, t1⟩ := r1
    refine ⟨_, rfl, ⟨vs, s1⟩, f _ _ _ _ _ q1 k1 rh1 fun H2 h2 k2 rh2 _ => ?_⟩
    have s2 := SqT.keep k2 s1
    have t2 := RDs.keep k2 _ _ t1
    refine ⟨fun i d ed => ?_, ⟨vs, s2, by rw [t1.length]; exact Nat.le_refl _⟩⟩
    obtain ⟨u, eu, ru⟩ := t2.get ed
    refine ⟨⟨vs, u, s2, eu⟩, fun x H' y => ?_⟩
    obtain ⟨rfl, y⟩ := y
    have e3 : some u = some x := eu.symm.trans (y vs s2)
    cases e3
    exact ⟨Keeps.refl _, rh2, ru⟩
  · exact q1.elim
/-- the signs of a text -/
def signs (x : Str) : List D := x.cps.toList.map fun c => .str ⟨#[c]⟩
def iSt (te : DTE) : DTI := fun σ h P => te σ h fun d h1 => match d with
  | .str x => P (signs x) (fun _ => True) h1
  | _ => False
theorem di_str (he : DE X e te) : DI X tg e (iSt te) := by
  refine ⟨piImp (pi_str he.pe) ?_⟩
  rintro σ H R ⟨dσ, h, P, rs, rh, q, f⟩
  refine ⟨dσ, h, _, rs, rh, q, fun d h1 v H1 q1 k1 rh1 r1 => ?_⟩
  split at q1
  · rename_i x
    cases r1
    refine ⟨x, rfl, f _ _ _ _ _ q1 k1 rh1 fun H2 h2 k2 rh2 _ => ?_⟩
    refine ⟨fun i d ed => ?_, ?_⟩
    · unfold signs at ed
      rw [List.getElem?_map] at ed
      obtain ⟨c, ec, rfl⟩ := Option.map_eq_some_iff.mp ed
      rw [Array.getElem?_toList] at ec
      have hi : i < x.cps.size := (Array.getElem?_eq_some_iff.mp ec).1
      refine ⟨hi, fun y H' z => ?_⟩
      obtain ⟨rfl, c', ec', rfl⟩ := z
      rw [ec] at ec'; cases ec'
      exact ⟨Keeps.refl _, rh2, rfl⟩
    · show x.cps.size ≤ (signs x).length
      unfold signs
      rw [List.length_map, Array.length_toList]
      exact Nat.le_refl _
  · exact q1.elim
/-- numbers in order -/
def numsFrom (lo : Int) (n : Nat) : List D := (List.range n).map fun (i : Nat) => .int (lo + i)
def iR1 (ta : DTA) : DTI := fun σ h P => ta σ h fun ds h1 => match ds with
  | [.int j] => (-(2 ^ 62) ≤ j ∧ j < 2 ^ 62) ∧ P (numsFrom 0 j.toNat) (fun _ => True) h1
  | _ => False
def iR2 (ta : DTA) : DTI := fun σ h P => ta σ h fun ds h1 => match ds with
  | [.int i, .int j] => (-(2 ^ 62) ≤ i ∧ i < 2 ^ 62 ∧ -(2 ^ 62) ≤ j ∧ j < 2 ^ 62) ∧ P (numsFrom i (j - i).toNat) (fun _ => True) h1
  | _ => False
theorem itr_ok {K : PySem.W.Frag} {w : World} {H1 : Hp} {lo : Int} {n : Nat} : ItOk K w H1 (Itr lo n) (numsFrom lo n) (fun _ => True) := by
  intro H2 h2 k2 rh2 _
  refine ⟨fun i d ed => ?_, ?_⟩
  · unfold numsFrom at ed
    rw [List.getElem?_map] at ed
    obtain ⟨c, ec, rfl⟩ := Option.map_eq_some_iff.mp ed
    obtain ⟨hi, hc⟩ := List.getElem?_eq_some_iff.mp ec
    rw [List.length_range] at hi
    rw [List.getElem_range] at hc
    subst hc
    refine ⟨hi, fun y H' z => ?_⟩
    obtain ⟨rfl, rfl⟩ := z
    exact ⟨Keeps.refl _, rh2, rfl⟩
  · show n ≤ (numsFrom lo n).length
    unfold numsFrom
    rw [List.length_map, List.length_range]
    exact Nat.le_refl _
theorem di_range1 {a : Expr} {ta : DTA} {p : Pos} (hg : Gl X "range") (hm : X.mg "range" = none) (ha : DA X [a] ta) (hs : starEach [a] X.env = [(false, eval a X.env)] := by rfl) : DI X tg (.Call (.Name "range" p) [a] [] pos) (iR1 ta) := by
  refine ⟨piImp (pi_range1 hg hm ha.pa hs) ?_⟩
  rintro σ H R ⟨dσ, h, P, rs, rh, q, f⟩
  refine ⟨dσ, h, _, rs, rh, q, fun ds h1 vs H1 q1 k1 rh1 r1 => ?_⟩
  split at q1
  · obtain ⟨v, rfl, rv⟩ := r1.one
    cases rv
    exact ⟨_, rfl, q1.1.1, q1.1.2, f _ _ _ _ _ q1.2 k1 rh1 itr_ok⟩
  · exact q1.elim
theorem di_range2 {a b : Expr} {ta : DTA} {p : Pos} (hg : Gl X "range") (hm : X.mg "range" = none) (ha : DA X [a, b] ta) (hs : starEach [a, b] X.env = [(false, eval a X.env), (false, eval b X.env)] := by rfl) (hs2 : starEach [b] X.env = [(false, eval b X.env)] := by rfl) :
    DI X tg (.Call (.Name "range" p) [a, b] [] pos) (iR2 ta) := by
  refine ⟨piImp (pi_range2 hg hm ha.pa hs hs2) ?_⟩
  rintro σ H R ⟨dσ, h, P, rs, rh, q, f⟩
  refine ⟨dσ, h, _, rs, rh, q, fun ds h1 vs H1 q1 k1 rh1 r1 => ?_⟩
  split at q1
  · obtain ⟨v, u, rfl, rv, ru⟩ := r1.two
    cases rv; cases ru
    exact ⟨_, _, rfl, q1.1, f _ _ _ _ _ q1.2 k1 rh1 itr_ok⟩
  · exact q1.elim
/-- what must stand while a list is walked -/
def seqSt (d : D) (xs : List D) (h : DH) : Prop := match d with
  | .ref a => h a = some (.lst xs)
  | _ => True
theorem seq_it {K : PySem.W.Frag} {w : World} {H1 : Hp} {h1 : DH} {d : D} {v : V} {k : List D → Prop} (rh : RH K w H1 h1) (r : RD K w H1 d v) (q : seqAt d h1 k) :
    ∃ a vs xs, v = .ref a ∧ SqL K H1 a vs ∧ k xs ∧ ∀ H2 h2, Keeps H1 H2 → RH K w H2 h2 → seqSt d xs h2 → ∃ us, SqL K H2 a us ∧ RDs K w H2 xs us := by
  unfold seqAt at q
  cases d with
  | ref a =>
    cases r
    obtain ⟨xs, e, q⟩ := of_lstAt q
    obtain ⟨vs, g, t⟩ := rh.lst e
    refine ⟨a, vs, xs, rfl, SqL.of g, q, fun H2 h2 k2 rh2 s2 => ?_⟩
    obtain ⟨us, g2, t2⟩ := rh2.lst s2
    exact ⟨us, SqL.of g2, t2⟩
  | rol xs =>
    obtain ⟨a, vs, rfl, s, t⟩ := r
    exact ⟨a, vs, xs, rfl, s.sq, q, fun H2 h2 k2 _ _ => ⟨vs, (SqF.keep k2 s).sq, RDs.keep k2 _ _ t⟩⟩
  | _ => exact q.elim
/-- enumerate(list) to a written pair -/
def numbered (xs : List D) : List D := (List.range xs.length).zipWith (fun (i : Nat) d => .tup [.int (i : Int), d]) xs
theorem numbered_get {xs : List D} {i : Nat} {d : D} (e : (numbered xs)[i]? = some d) : ∃ x, xs[i]? = some x ∧ d = .tup [.int (i : Int), x] := by
  unfold numbered at e
  rw [List.getElem?_zipWith_eq_some] at e
  obtain ⟨j, x, e1, e2, rfl⟩ := e
  obtain ⟨hi, hc⟩ := List.getElem?_eq_some_iff.mp e1
  rw [List.getElem_range] at hc
  subst hc
  exact ⟨x, e2, rfl⟩
theorem numbered_length (xs : List D) : (numbered xs).length = xs.length := by unfold numbered; rw [List.length_zipWith, List.length_range, Nat.min_self]
def iEn (ta : DTA) : DTI := fun σ h P => ta σ h fun ds h1 => match ds with
  | [d] => seqAt d h1 fun xs => P (numbered xs) (seqSt d xs) h1
  | _ => False
theorem di_enum {ta : DTA} {p tpos : Pos} {elts : List Expr} {kk : Nat} (hg : Gl X "enumerate") (hm : X.mg "enumerate" = none) (ha : DA X [e] ta) (hs : starEach [e] X.env = [(false, eval e X.env)] := by rfl) :
    DI X (.Tuple elts kk tpos) (.Call (.Name "enumerate" p) [e] [] pos) (iEn ta) := by
  refine ⟨piImp (pi_enum hg hm ha.pa hs) ?_⟩
  rintro σ H R ⟨dσ, h, P, rs, rh, q, f⟩
  refine ⟨dσ, h, _, rs, rh, q, fun ds h1 vs H1 q1 k1 rh1 r1 => ?_⟩
  split at q1
  · obtain ⟨v, rfl, rv⟩ := r1.one
    obtain ⟨a, vs, xs, rfl, g1, q1, src⟩ := seq_it rh1 rv q1
    refine ⟨_, vs, rfl, g1, f _ _ _ _ _ q1 k1 rh1 fun H2 h2 k2 rh2 s2 => ?_⟩
    obtain ⟨us, g2, t2⟩ := src H2 h2 k2 rh2 s2
    refine ⟨fun i d ed => ?_, ⟨us, g2, by rw [t2.length, numbered_length]; exact Nat.le_refl _⟩⟩
    obtain ⟨y, ey, rfl⟩ := numbered_get ed
    obtain ⟨u, eu, ru⟩ := t2.get ey
    refine ⟨⟨us, u, g2, eu⟩, fun x H' z => ?_⟩
    obtain ⟨T, x', rfl, nT, rfl, hx⟩ := z
    have e3 : some u = some x' := eu.symm.trans (hx us g2)
    cases e3
    have n := RH.newT (vs := [V.int (i : Nat), u]) rh2 nT
    exact ⟨n.1, n.2, RD.newT nT ⟨_, _, rfl, rfl, _, _, rfl, ru, rfl⟩⟩
  · exact q1.elim

/-! ### for -/
def forGo (g : DTG) (tb : DTS) (st : DH → Prop) (E : DEnds) : List D → DSt → DH → Prop
  | [], σ, h => st h ∧ E.nx σ h
  | x :: xs, σ, h => st h ∧ g x σ h fun σ1 h1 => tb { nx := forGo g tb st E xs, rt := E.rt, bk := E.nx, ct := forGo g tb st E xs } σ1 h1
theorem forGo_st {g : DTG} {tb : DTS} {st : DH → Prop} {E : DEnds} {xs : List D} {σ : DSt} {h : DH} (q : forGo g tb st E xs σ h) : st h := by
  cases xs with
  | nil => exact q.1
  | cons x xs => exact q.1
def sFor (ti : DTI) (g : DTG) (tb : DTS) : DTS := fun E σ h => ti σ h fun xs st h1 => forGo g tb st E xs σ h1
theorem ds_for {iter : Expr} {body : List Stmt} {ti : DTI} {vs : List Nat} {g : DTG} {tb : DTS} (hp : PassesOwn (model X.prog X.w) X.A X.env X.xe) (hc : X.calm = true) (hi : DI X tg iter ti) (hg : DG X vs tg g) (hb : DSs X body tb)
    (hs : ∀ x, foldedSetIterable iter X.env x = pure x := by intro _; rfl) : DS X (.For tg iter body [] pos) (sFor ti g tb) := by
  refine ⟨psImp (ps_for hp hc hi.pi hg.pg hb.pss hs) ?_⟩
  rintro Q σ H ⟨dσ, h, E, rs, rh, q, f⟩
  refine ⟨dσ, h, _, rs, rh, q, fun xs st h1 J H1 q1 k1 rh1 ok => ?_⟩
  refine ⟨fun i m σ' H' => ∃ dσ' h', m = xs.length - i ∧ i ≤ xs.length ∧ Keeps H1 H' ∧ RH X.K X.w H' h' ∧ RS X.K X.w H' dσ' σ' ∧ forGo g tb st E (xs.drop i) dσ' h',
    ⟨xs.length, dσ, h1, by simp, Nat.zero_le _, Keeps.refl _, rh1, rs.keep k1, q1⟩, ?_⟩
  rintro i m σ' H' ⟨dσ', h', rfl, hi', k', rh', rs', q'⟩
  obtain ⟨o1, o2⟩ := ok H' h' k' rh' (forGo_st q')
  by_cases hlt : i < xs.length
  · rw [List.drop_eq_getElem_cons hlt] at q'
    obtain ⟨p1, p2⟩ := o1 i _ (List.getElem?_eq_getElem hlt)
    refine .inr ⟨p1, fun σ2 H2 => ∃ dσ2 h2, Keeps H1 H2 ∧ RH X.K X.w H2 h2 ∧ RS X.K X.w H2 dσ2 σ2 ∧ forGo g tb st E (xs.drop (i + 1)) dσ2 h2, ?_, fun x H2 y => ?_⟩
    · rintro σ2 H2 ⟨dσ2, h2, z⟩
      exact ⟨xs.length - (i + 1), by omega, dσ2, h2, rfl, hlt, z⟩
    · obtain ⟨k2, rh2, r2⟩ := p2 x H2 y
      refine ⟨_, dσ', h', _, r2, rs'.keep k2, rh2, q'.2, fun dσ3 h3 σ3 H3 q3 k3 rh3 rs3 _ => ?_⟩
      have kk := k1.trans (k'.trans (k2.trans k3))
      refine ⟨dσ3, h3, _, rs3, rh3, q3, ⟨fun dσ4 h4 σ4 H4 q4 k4 rh4 rs4 => ?_, f.rt.keep kk, f.nx.keep kk, fun dσ4 h4 σ4 H4 q4 k4 rh4 rs4 => ?_⟩⟩
      · exact ⟨dσ4, h4, k'.trans (k2.trans (k3.trans k4)), rh4, rs4, q4⟩
      · exact ⟨dσ4, h4, k'.trans (k2.trans (k3.trans k4)), rh4, rs4, q4⟩
  · have e : i = xs.length := by omega
    subst e
    rw [List.drop_length] at q'
    exact .inl ⟨o2, f.nx _ _ _ _ q'.2 (k1.trans k') rh' rs'⟩
/-- the loop by what holds between two turns -/
theorem forGo_inv {g : DTG} {tb : DTS} {st : DH → Prop} {E : DEnds} {σ : DSt} {h : DH} (I : List D → DSt → DH → Prop) : ∀ (xs : List D), I xs σ h →
    (∀ ys σ h, I ys σ h → st h) → (∀ σ h, I [] σ h → E.nx σ h) →
    (∀ x ys σ h, x ∈ xs → I (x :: ys) σ h → g x σ h fun σ1 h1 => ∀ nx : DSt → DH → Prop, (∀ σ h, I ys σ h → nx σ h) → tb { nx := nx, rt := E.rt, bk := E.nx, ct := nx } σ1 h1) →
    (∀ x σ h (P P' : DSt → DH → Prop), (∀ σ h, P σ h → P' σ h) → g x σ h P → g x σ h P') → forGo g tb st E xs σ h := by
  intro xs h0 hst hend hstep mono
  induction xs generalizing σ h with
  | nil => exact ⟨hst _ _ _ h0, hend _ _ h0⟩
  | cons x ys ih =>
    refine ⟨hst _ _ _ h0, mono _ _ _ _ _ (fun σ1 h1 q => ?_) (hstep x ys σ h List.mem_cons_self h0)⟩
    exact q _ fun σ2 h2 i2 => ih i2 fun y zs σ h hy => hstep y zs σ h (List.mem_cons_of_mem _ hy)

/-! ### while -/
def whGo (c : DTT) (tb : DTS) (E : DEnds) : Nat → DSt → DH → Prop
  | 0, _, _ => False
  | n + 1, σ, h => c σ h fun b h1 => if b = true then tb { nx := whGo c tb E n, rt := E.rt, bk := E.nx, ct := whGo c tb E n } σ h1 else E.nx σ h1
def sWhile (c : DTT) (tb : DTS) : DTS := fun E σ h => ∃ n, whGo c tb E n σ h
theorem ds_while {c : Expr} {body : List Stmt} {tc : DTT} {tb : DTS} (hp : PassesOwn (model X.prog X.w) X.A X.env X.xe) (hc : DT X c tc) (hb : DSs X body tb) : DS X (.While c body [] pos) (sWhile tc tb) := by
  refine ⟨psImp (ps_while hp hc.pt hb.pss) ?_⟩
  rintro Q σ H ⟨dσ, h, E, rs, rh, ⟨n, q⟩, f⟩
  refine ⟨fun m σ' H' => ∃ dσ' h', Keeps H H' ∧ RH X.K X.w H' h' ∧ RS X.K X.w H' dσ' σ' ∧ whGo tc tb E m dσ' h', ⟨n, dσ, h, Keeps.refl _, rh, rs, q⟩, ?_⟩
  rintro m σ' H' ⟨dσ', h', k', rh', rs', q'⟩
  cases m with
  | zero => exact q'.elim
  | succ m =>
    refine ⟨dσ', h', _, rs', rh', q', fun b h1 H1 q1 k1 rh1 => ?_⟩
    cases b with
    | false =>
      rw [if_neg Bool.false_ne_true] at q1 ⊢
      exact f.nx _ _ _ _ q1 (k'.trans k1) rh1 (rs'.keep k1)
    | true =>
      rw [if_pos rfl] at q1 ⊢
      have kk := k'.trans k1
      refine ⟨fun σ2 H2 => ∃ dσ2 h2, Keeps H H2 ∧ RH X.K X.w H2 h2 ∧ RS X.K X.w H2 dσ2 σ2 ∧ whGo tc tb E m dσ2 h2, fun σ2 H2 z => ⟨m, Nat.lt_succ_self _, z⟩, ?_⟩
      refine ⟨dσ', h1, _, rs'.keep k1, rh1, q1, ⟨fun dσ4 h4 σ4 H4 q4 k4 rh4 rs4 => ?_, f.rt.keep kk, f.nx.keep kk, fun dσ4 h4 σ4 H4 q4 k4 rh4 rs4 => ?_⟩⟩
      · exact ⟨dσ4, h4, kk.trans k4, rh4, rs4, q4⟩
      · exact ⟨dσ4, h4, kk.trans k4, rh4, rs4, q4⟩
end
end DL
/-! D6: list comprehensions, methods, own defs and classes. -/
namespace DL
open PySem PySem.Spec PyProof.Rows L2

/-! ### list comprehensions -/
def dwipe (σ : DSt) : List Nat → DSt
  | [] => σ
  | v :: vs => (dwipe σ vs).set v none
theorem RS.wipe {K : PySem.W.Frag} {ω : World} {H : Hp} {dσ : DSt} {σ : L2.St} (r : RS K ω H dσ σ) : ∀ vs, RS K ω H (dwipe dσ vs) (L2.wipe σ vs)
  | [] => r
  | v :: vs => (RS.wipe r vs).wipe1 v
theorem wipe_in {σ : L2.St} {i : Nat} : ∀ {vs : List Nat}, i ∈ vs → i < σ.length → (wipe σ vs)[i]? = some none
  | [], h, _ => by simp at h
  | v :: vs, h, hl => by
    show ((wipe σ vs).set v none)[i]? = some none
    by_cases e : v = i
    · subst e
      exact List.getElem?_set_self (by rw [wipe_length]; exact hl)
    · rw [List.getElem?_set_ne e]
      rcases List.mem_cons.mp h with h | h
      · exact absurd h.symm e
      · exact wipe_in h hl
theorem wipe_same {σ σ2 : L2.St} {vs ws : List Nat} (s : SameOff ws (wipe σ vs) σ2) (hw : ∀ i ∈ ws, i ∈ vs) : wipe σ2 vs = wipe σ vs := by
  have hl : σ2.length = σ.length := s.1.trans (wipe_length σ vs)
  refine List.ext_getElem? fun j => ?_
  by_cases hj : j ∈ vs
  · by_cases h : j < σ.length
    · rw [wipe_in hj h, wipe_in hj (by rw [hl]; exact h)]
    · rw [List.getElem?_eq_none (by rw [wipe_length]; omega), List.getElem?_eq_none (by rw [wipe_length]; omega)]
  · rw [wipe_out hj, s.2 j (fun z => hj (hw j z))]
structure DTs (X : Cx) (ifs : List Expr) (t : DTT) : Prop where
  pts : PTs X ifs (LT X.K X.w t)
def dYes : DTT := fun _ h P => P true h
section
variable {X : Cx} {pos : Pos}
theorem dts_nil : DTs X [] dYes := ⟨⟨fun pins s σ H Q I ⟨dσ, h, P, rs, rh, q, f⟩ => pts_nil.run pins s σ H Q I (f _ _ _ q (Keeps.refl _) rh)⟩⟩
theorem dts_one {c : Expr} {t : DTT} (h : DT X c t) : DTs X [c] t := ⟨pts_one h.pt⟩
def lcGo (g : DTG) (tt : DTT) (te : DTE) (st : DH → Prop) (σ : DSt) (L : Addr) : List D → DH → (DH → Prop) → Prop
  | [], h, P => st h ∧ P h
  | x :: xs, h, P => st h ∧ g x σ h fun σ2 h2 => tt σ2 h2 fun b h3 => if b = true then te σ2 h3 fun y h4 => lstAt h4 L fun acc => acc.length < sizeLine ∧ lcGo g tt te st σ L xs (put h4 L (.lst (acc ++ [y]))) P
    else lcGo g tt te st σ L xs h3 P
theorem lcGo_st {g : DTG} {tt : DTT} {te : DTE} {st : DH → Prop} {σ : DSt} {L : Addr} {xs : List D} {h : DH} {P : DH → Prop} (q : lcGo g tt te st σ L xs h P) : st h := by
  cases xs with
  | nil => exact q.1
  | cons x xs => exact q.1
def dLc (ti : DTI) (g : DTG) (tt : DTT) (te : DTE) (vs : List Nat) : DTE := fun σ h P => ti σ h fun xs st h1 => fresh h1 (.lst []) fun L h2 => lcGo g tt te st (dwipe σ vs) L xs h2 (P (.ref L))
theorem liftLc {K : PySem.W.Frag} {w : World} {ti : DTI} {g : DTG} {tt : DTT} {te : DTE} {vs ws : List Nat} (hw : ∀ i ∈ ws, i ∈ vs) {σ : L2.St} {H : Hp} {Q : VK} (q : LE K w (dLc ti g tt te vs) σ H Q) :
    tLc (LI K w ti) (LG K w ws g) (LT K w tt) (LE K w te) vs σ H Q := by
  obtain ⟨dσ, h, P, rs, rh, q, f⟩ := q
  refine ⟨dσ, h, _, rs, rh, q, fun xs st h1 J H1 q1 k1 rh1 ok L nL => ?_⟩
  have n := RH.newL (ds := []) (vs := []) rh1 nL rfl
  have rsw := (rs.keep (k1.trans n.1)).wipe vs
  refine ⟨fun i m H' => ∃ h', m = xs.length - i ∧ i ≤ xs.length ∧ Keeps (upd H1 L (.lst [])) H' ∧ RH K w H' h' ∧ lcGo g tt te st (dwipe dσ vs) L (xs.drop i) h' (P (.ref L)),
    ⟨xs.length, put h1 L (.lst []), by simp, Nat.zero_le _, Keeps.refl _, n.2, q1 L (rh1.free nL)⟩, ?_⟩
  rintro i m H' ⟨h', rfl, hi', k', rh', q'⟩
  obtain ⟨o1, o2⟩ := ok H' h' (n.1.trans k') rh' (lcGo_st q')
  by_cases hlt : i < xs.length
  · rw [List.drop_eq_getElem_cons hlt] at q'
    obtain ⟨p1, p2⟩ := o1 i _ (List.getElem?_eq_getElem hlt)
    refine .inr ⟨p1, fun H2 => ∃ h2, Keeps (upd H1 L (.lst [])) H2 ∧ RH K w H2 h2 ∧ lcGo g tt te st (dwipe dσ vs) L (xs.drop (i + 1)) h2 (P (.ref L)), ?_, fun x H2 y => ?_⟩
    · rintro H2 ⟨h2, z⟩
      exact ⟨xs.length - (i + 1), by omega, h2, rfl, hlt, z⟩
    · obtain ⟨k2, rh2, r2⟩ := p2 x H2 y
      refine ⟨_, dwipe dσ vs, h', _, r2, rsw.keep (k'.trans k2), rh2, q'.2, fun dσ3 h3 σ3 H3 q3 k3 rh3 rs3 so => ⟨wipe_same so hw, ?_⟩⟩
      refine ⟨dσ3, h3, _, rs3, rh3, q3, fun b h4 H4 q4 k4 rh4 => ?_⟩
      cases b with
      | false =>
        rw [if_neg Bool.false_ne_true] at q4 ⊢
        exact ⟨h4, k'.trans (k2.trans (k3.trans k4)), rh4, q4⟩
      | true =>
        rw [if_pos rfl] at q4 ⊢
        refine ⟨dσ3, h4, _, rs3.keep k4, rh4, q4, fun d h5 v H5 q5 k5 rh5 r5 => ?_⟩
        obtain ⟨acc, e5, z5, q5⟩ := of_lstAt q5
        obtain ⟨us, g5, t5⟩ := rh5.lst e5
        have n5 := RH.setL rh5 g5 (t5.append (RDs.cons r5 (show RDs K w H5 [] [] from rfl)))
        exact ⟨us, g5, by rw [t5.length]; exact z5, _, k'.trans (k2.trans (k3.trans (k4.trans (k5.trans n5.1)))), n5.2, q5⟩
  · have e : i = xs.length := by omega
    subst e
    rw [List.drop_length] at q'
    exact .inl ⟨o2, f _ _ _ _ q'.2 (k1.trans (n.1.trans k')) rh' rfl⟩
theorem de_lc {elt tg iter : Expr} {ifs : List Expr} {scope : Scope} {own : List (Str × Nat)} {ws : List Nat} {ti : DTI} {g : DTG} {tt : DTT} {te : DTE} (hc : X.calm = true) (hN : X.N.Nodup) (hi : DI X tg iter ti) (ok : BlkOk X.N X.env.scope scope own) (hw : ∀ i ∈ ws, i ∈ own.map (·.2))
    (hg : ∀ (s : Shared) (H : Hp) (C : Addr) (cl : List (Str × Addr)) (fp : List Addr), DG (X.blk s H scope (compEnvC scope cl C X.env) fp) ws tg g) (ht : ∀ (s : Shared) (H : Hp) (C : Addr) (cl : List (Str × Addr)) (fp : List Addr), DTs (X.blk s H scope (compEnvC scope cl C X.env) fp) ifs tt)
    (he : ∀ (s : Shared) (H : Hp) (C : Addr) (cl : List (Str × Addr)) (fp : List Addr), DE (X.blk s H scope (compEnvC scope cl C X.env) fp) elt te) (hs : ∀ x, foldedSetIterable iter X.env x = pure x := by intro _; rfl) :
    DE X (.ListComp elt [⟨tg, iter, ifs, 0⟩] scope pos) (dLc ti g tt te (own.map (·.2))) :=
  ⟨peImp (pe_lc (te := LE X.K X.w te) hc hN hi.pi ok (fun s H C cl fp => (hg s H C cl fp).pg) (fun s H C cl fp => (ht s H C cl fp).pts) (fun s H C cl fp => (he s H C cl fp).pe) hs) fun _ _ _ q => liftLc hw q⟩
theorem ds_setLc {i : Nat} {y : Str} {py : Pos} {elt tg iter : Expr} {ifs : List Expr} {scope : Scope} {own : List (Str × Nat)} {ws : List Nat} {spos : Pos} {ti : DTI} {g : DTG} {tt : DTT} {te : DTE} (hc : X.calm = true) (hN : X.N.Nodup) (hy : X.N[i]? = some y) (hyl : X.env.scope.names.lookup y = some .local)
    (hsw : swapsWith (.ListComp elt [⟨tg, iter, ifs, 0⟩] scope pos) (some (.Name y py)) spos.line X.env = pure true) (hi : DI X tg iter ti) (ok : BlkOk X.N X.env.scope scope own) (hw : ∀ i ∈ ws, i ∈ own.map (·.2))
    (hg : ∀ (s : Shared) (H : Hp) (C : Addr) (cl : List (Str × Addr)) (fp : List Addr), DG (X.blk s H scope (compEnvC scope cl C X.env) fp) ws tg g) (ht : ∀ (s : Shared) (H : Hp) (C : Addr) (cl : List (Str × Addr)) (fp : List Addr), DTs (X.blk s H scope (compEnvC scope cl C X.env) fp) ifs tt)
    (he : ∀ (s : Shared) (H : Hp) (C : Addr) (cl : List (Str × Addr)) (fp : List Addr), DE (X.blk s H scope (compEnvC scope cl C X.env) fp) elt te) (hs : ∀ x, foldedSetIterable iter X.env x = pure x := by intro _; rfl) :
    DS X (.Assign [.Name y py] (.ListComp elt [⟨tg, iter, ifs, 0⟩] scope pos) spos) (sAsg (dLc ti g tt te (own.map (·.2))) (gNm i)) := by
  refine ⟨psImp (ps_setLc (te := LE X.K X.w te) (tt := LT X.K X.w tt) (g := LG X.K X.w ws g) hc hN hy hyl hsw hi.pi ok (fun s H C cl fp => (hg s H C cl fp).pg) (fun s H C cl fp => (ht s H C cl fp).pts) (fun s H C cl fp => (he s H C cl fp).pe) hs) ?_⟩
  rintro Q σ H ⟨dσ, h, E, rs, rh, q, f⟩
  exact liftLc hw ⟨dσ, h, _, rs, rh, q, fun d h1 v H1 q1 k1 rh1 r1 => f.nx _ _ _ _ q1 k1 rh1 ((rs.keep k1).set i r1)⟩
/-- two fors -/
def lc2Go (g : DTG) (tt : DTT) (ti1 : DTI) (g1 : DTG) (tt1 : DTT) (te : DTE) (vs1 : List Nat) (st : DH → Prop) (σ : DSt) (L : Addr) : List D → DH → (DH → Prop) → Prop
  | [], h, P => st h ∧ P h
  | x :: xs, h, P => st h ∧ g x σ h fun σ2 h2 => tt σ2 h2 fun b h3 => if b = true then ti1 σ2 h3 fun ys st1 h4 => lcGo g1 tt1 te st1 (dwipe σ2 vs1) L ys h4 fun h5 => lc2Go g tt ti1 g1 tt1 te vs1 st σ L xs h5 P
    else lc2Go g tt ti1 g1 tt1 te vs1 st σ L xs h3 P
theorem lc2Go_st {g : DTG} {tt : DTT} {ti1 : DTI} {g1 : DTG} {tt1 : DTT} {te : DTE} {vs1 : List Nat} {st : DH → Prop} {σ : DSt} {L : Addr} {xs : List D} {h : DH} {P : DH → Prop} (q : lc2Go g tt ti1 g1 tt1 te vs1 st σ L xs h P) : st h := by
  cases xs with
  | nil => exact q.1
  | cons x xs => exact q.1
def dLc2 (ti : DTI) (g : DTG) (tt : DTT) (ti1 : DTI) (g1 : DTG) (tt1 : DTT) (te : DTE) (vs vs1 : List Nat) : DTE := fun σ h P => ti σ h fun xs st h1 => fresh h1 (.lst []) fun L h2 => lc2Go g tt ti1 g1 tt1 te vs1 st (dwipe σ vs) L xs h2 (P (.ref L))
theorem liftLc2 {K : PySem.W.Frag} {w : World} {ti ti1 : DTI} {g g1 : DTG} {tt tt1 : DTT} {te : DTE} {vs vs1 ws ws1 : List Nat} (hw : ∀ i ∈ ws, i ∈ vs) (hw1 : ∀ i ∈ ws1, i ∈ vs1) {σ : L2.St} {H : Hp} {Q : VK} (q : LE K w (dLc2 ti g tt ti1 g1 tt1 te vs vs1) σ H Q) :
    tLc2 (LI K w ti) (LG K w ws g) (LT K w tt) (LI K w ti1) (LG K w ws1 g1) (LT K w tt1) (LE K w te) vs vs1 σ H Q := by
  obtain ⟨dσ, h, P, rs, rh, q, f⟩ := q
  refine ⟨dσ, h, _, rs, rh, q, fun xs st h1 J H1 q1 k1 rh1 ok L nL => ?_⟩
  have n := RH.newL (ds := []) (vs := []) rh1 nL rfl
  have rsw := (rs.keep (k1.trans n.1)).wipe vs
  refine ⟨fun i m H' => ∃ h', m = xs.length - i ∧ i ≤ xs.length ∧ Keeps (upd H1 L (.lst [])) H' ∧ RH K w H' h' ∧ lc2Go g tt ti1 g1 tt1 te vs1 st (dwipe dσ vs) L (xs.drop i) h' (P (.ref L)),
    ⟨xs.length, put h1 L (.lst []), by simp, Nat.zero_le _, Keeps.refl _, n.2, q1 L (rh1.free nL)⟩, ?_⟩
  rintro i m H' ⟨h', rfl, hi', k', rh', q'⟩
  obtain ⟨o1, o2⟩ := ok H' h' (n.1.trans k') rh' (lc2Go_st q')
  by_cases hlt : i < xs.length
  · rw [List.drop_eq_getElem_cons hlt] at q'
    obtain ⟨p1, p2⟩ := o1 i _ (List.getElem?_eq_getElem hlt)
    refine .inr ⟨p1, fun H2 => ∃ h2, Keeps (upd H1 L (.lst [])) H2 ∧ RH K w H2 h2 ∧ lc2Go g tt ti1 g1 tt1 te vs1 st (dwipe dσ vs) L (xs.drop (i + 1)) h2 (P (.ref L)), ?_, fun x H2 y => ?_⟩
    · rintro H2 ⟨h2, z⟩
      exact ⟨xs.length - (i + 1), by omega, h2, rfl, hlt, z⟩
    · obtain ⟨k2, rh2, r2⟩ := p2 x H2 y
      refine ⟨_, dwipe dσ vs, h', _, r2, rsw.keep (k'.trans k2), rh2, q'.2, fun dσ3 h3 σ3 H3 q3 k3 rh3 rs3 so => ⟨wipe_same so hw, ?_⟩⟩
      refine ⟨dσ3, h3, _, rs3, rh3, q3, fun b h4 H4 q4 k4 rh4 => ?_⟩
      cases b with
      | false =>
        rw [if_neg Bool.false_ne_true] at q4 ⊢
        exact ⟨h4, k'.trans (k2.trans (k3.trans k4)), rh4, q4⟩
      | true =>
        rw [if_pos rfl] at q4 ⊢
        have kA := k'.trans (k2.trans (k3.trans k4))
        refine ⟨dσ3, h4, _, rs3.keep k4, rh4, q4, fun ys st1 h5 J1 H5 q5 k5 rh5 ok1 => ?_⟩
        have rsw1 := (rs3.keep (k4.trans k5)).wipe vs1
        refine ⟨fun j m H' => ∃ h', m = ys.length - j ∧ j ≤ ys.length ∧ Keeps H5 H' ∧ RH K w H' h' ∧ lcGo g1 tt1 te st1 (dwipe dσ3 vs1) L (ys.drop j) h' (fun h5 => lc2Go g tt ti1 g1 tt1 te vs1 st (dwipe dσ vs) L (xs.drop (i + 1)) h5 (P (.ref L))),
          ⟨ys.length, h5, by simp, Nat.zero_le _, Keeps.refl _, rh5, q5⟩, ?_⟩
        rintro j m H6 ⟨h6, rfl, hj, k6, rh6, q6⟩
        obtain ⟨o3, o4⟩ := ok1 H6 h6 k6 rh6 (lcGo_st q6)
        by_cases hlj : j < ys.length
        · rw [List.drop_eq_getElem_cons hlj] at q6
          obtain ⟨p3, p4⟩ := o3 j _ (List.getElem?_eq_getElem hlj)
          refine .inr ⟨p3, fun H7 => ∃ h7, Keeps H5 H7 ∧ RH K w H7 h7 ∧ lcGo g1 tt1 te st1 (dwipe dσ3 vs1) L (ys.drop (j + 1)) h7 (fun h5 => lc2Go g tt ti1 g1 tt1 te vs1 st (dwipe dσ vs) L (xs.drop (i + 1)) h5 (P (.ref L))), ?_, fun x7 H7 y7 => ?_⟩
          · rintro H7 ⟨h7, z⟩
            exact ⟨ys.length - (j + 1), by omega, h7, rfl, hlj, z⟩
          · obtain ⟨k7, rh7, r7⟩ := p4 x7 H7 y7
            refine ⟨_, dwipe dσ3 vs1, h6, _, r7, rsw1.keep (k6.trans k7), rh7, q6.2, fun dσ8 h8 σ8 H8 q8 k8 rh8 rs8 so8 => ⟨wipe_same so8 hw1, ?_⟩⟩
            refine ⟨dσ8, h8, _, rs8, rh8, q8, fun b h9 H9 q9 k9 rh9 => ?_⟩
            cases b with
            | false =>
              rw [if_neg Bool.false_ne_true] at q9 ⊢
              exact ⟨h9, k6.trans (k7.trans (k8.trans k9)), rh9, q9⟩
            | true =>
              rw [if_pos rfl] at q9 ⊢
              refine ⟨dσ8, h9, _, rs8.keep k9, rh9, q9, fun d hx v Hx qx kx rhx rx => ?_⟩
              obtain ⟨acc, ex, zx, qx⟩ := of_lstAt qx
              obtain ⟨us, gx, tx⟩ := rhx.lst ex
              have nx := RH.setL rhx gx (tx.append (RDs.cons rx (show RDs K w Hx [] [] from rfl)))
              exact ⟨us, gx, by rw [tx.length]; exact zx, _, k6.trans (k7.trans (k8.trans (k9.trans (kx.trans nx.1)))), nx.2, qx⟩
        · have e : j = ys.length := by omega
          subst e
          rw [List.drop_length] at q6
          exact .inl ⟨o4, _, kA.trans (k5.trans k6), rh6, q6.2⟩
  · have e : i = xs.length := by omega
    subst e
    rw [List.drop_length] at q'
    exact .inl ⟨o2, f _ _ _ _ q'.2 (k1.trans (n.1.trans k')) rh' rfl⟩
abbrev InBlk (X : Cx) (scope : Scope) (p : Cx → Prop) : Prop := ∀ (s : Shared) (H : Hp) (C : Addr) (cl : List (Str × Addr)) (fp : List Addr), p (X.blk s H scope (compEnvC scope cl C X.env) fp)
theorem de_lc2 {elt tg iter tg1 iter1 : Expr} {ifs ifs1 : List Expr} {scope : Scope} {own : List (Str × Nat)} {vs1 ws ws1 : List Nat} {ti ti1 : DTI} {g g1 : DTG} {tt tt1 : DTT} {te : DTE} (hc : X.calm = true) (hN : X.N.Nodup) (hi : DI X tg iter ti) (ok : BlkOk X.N X.env.scope scope own)
    (hv : ∀ i ∈ vs1, i ∈ own.map (·.2)) (hw : ∀ i ∈ ws, i ∈ own.map (·.2)) (hw1 : ∀ i ∈ ws1, i ∈ vs1)
    (hg : InBlk X scope fun Y => DG Y ws tg g) (ht : InBlk X scope fun Y => DTs Y ifs tt) (hi1 : InBlk X scope fun Y => DI Y tg1 iter1 ti1) (hg1 : InBlk X scope fun Y => DG Y ws1 tg1 g1) (ht1 : InBlk X scope fun Y => DTs Y ifs1 tt1) (he : InBlk X scope fun Y => DE Y elt te)
    (hs : ∀ x, foldedSetIterable iter X.env x = pure x := by intro _; rfl) (hs1 : ∀ env x, foldedSetIterable iter1 env x = pure x := by intro _ _; rfl) :
    DE X (.ListComp elt [⟨tg, iter, ifs, 0⟩, ⟨tg1, iter1, ifs1, 0⟩] scope pos) (dLc2 ti g tt ti1 g1 tt1 te (own.map (·.2)) vs1) :=
  ⟨peImp (pe_lc2 (te := LE X.K X.w te) hc hN hi.pi ok hv (fun s H C cl fp => (hg s H C cl fp).pg) (fun s H C cl fp => (ht s H C cl fp).pts) (fun s H C cl fp => (hi1 s H C cl fp).pi) (fun s H C cl fp => (hg1 s H C cl fp).pg) (fun s H C cl fp => (ht1 s H C cl fp).pts) (fun s H C cl fp => (he s H C cl fp).pe) hs hs1) fun _ _ _ q => liftLc2 hw hw1 q⟩
theorem ds_setLc2 {i : Nat} {y : Str} {py : Pos} {elt tg iter tg1 iter1 : Expr} {ifs ifs1 : List Expr} {scope : Scope} {own : List (Str × Nat)} {vs1 ws ws1 : List Nat} {spos : Pos} {ti ti1 : DTI} {g g1 : DTG} {tt tt1 : DTT} {te : DTE} (hc : X.calm = true) (hN : X.N.Nodup) (hy : X.N[i]? = some y) (hyl : X.env.scope.names.lookup y = some .local)
    (hsw : swapsWith (.ListComp elt [⟨tg, iter, ifs, 0⟩, ⟨tg1, iter1, ifs1, 0⟩] scope pos) (some (.Name y py)) spos.line X.env = pure true) (hi : DI X tg iter ti) (ok : BlkOk X.N X.env.scope scope own)
    (hv : ∀ i ∈ vs1, i ∈ own.map (·.2)) (hw : ∀ i ∈ ws, i ∈ own.map (·.2)) (hw1 : ∀ i ∈ ws1, i ∈ vs1)
    (hg : InBlk X scope fun Y => DG Y ws tg g) (ht : InBlk X scope fun Y => DTs Y ifs tt) (hi1 : InBlk X scope fun Y => DI Y tg1 iter1 ti1) (hg1 : InBlk X scope fun Y => DG Y ws1 tg1 g1) (ht1 : InBlk X scope fun Y => DTs Y ifs1 tt1) (he : InBlk X scope fun Y => DE Y elt te)
    (hs : ∀ x, foldedSetIterable iter X.env x = pure x := by intro _; rfl) (hs1 : ∀ env x, foldedSetIterable iter1 env x = pure x := by intro _ _; rfl) :
    DS X (.Assign [.Name y py] (.ListComp elt [⟨tg, iter, ifs, 0⟩, ⟨tg1, iter1, ifs1, 0⟩] scope pos) spos) (sAsg (dLc2 ti g tt ti1 g1 tt1 te (own.map (·.2)) vs1) (gNm i)) := by
  refine ⟨psImp (ps_setLc2 (te := LE X.K X.w te) (tt := LT X.K X.w tt) (g := LG X.K X.w ws g) (tt1 := LT X.K X.w tt1) (g1 := LG X.K X.w ws1 g1) (wi1 := LI X.K X.w ti1) hc hN hy hyl hsw hi.pi ok hv (fun s H C cl fp => (hg s H C cl fp).pg) (fun s H C cl fp => (ht s H C cl fp).pts) (fun s H C cl fp => (hi1 s H C cl fp).pi) (fun s H C cl fp => (hg1 s H C cl fp).pg) (fun s H C cl fp => (ht1 s H C cl fp).pts) (fun s H C cl fp => (he s H C cl fp).pe) hs hs1) ?_⟩
  rintro Q σ H ⟨dσ, h, E, rs, rh, q, f⟩
  exact liftLc2 hw hw1 ⟨dσ, h, _, rs, rh, q, fun d h1 v H1 q1 k1 rh1 r1 => f.nx _ _ _ _ q1 k1 rh1 ((rs.keep k1).set i r1)⟩
end

/-! ### methods of what is built in -/
abbrev DRM := D → List D → DH → DK → Prop
def LM (K : PySem.W.Frag) (w : World) (r : DRM) : V → List V → Hp → VK → Prop := fun x xs H Q => ∃ d ds h P, RD K w H d x ∧ RDs K w H ds xs ∧ RH K w H h ∧ r d ds h P ∧ Fin K w H P Q
section
variable {X : Cx} {o e : Expr} {es : List Expr} {to te : DTE} {t : DTA} {name : Str} {id : String} {apos cpos : Pos} {r : DRM}
/-- a list's method with arguments -/
def dML (r : DRM) (to : DTE) (t : DTA) : DTE := fun σ h P => to σ h fun x h1 => match x with
  | .ref a => lstAt h1 a fun _ => t σ h1 fun ds h2 => r x ds h2 P
  | .rol _ => t σ h1 fun ds h2 => r x ds h2 P
  | _ => False
theorem de_ml (slot : Slot "list" name id) (hty : typeOf (.builtin id) = pure (.type "method_descriptor")) (hm : MtR X id (LM X.K X.w r)) (ho : DE X o to) (ha : DA X (e :: es) t)
    (hbase : attributeBase o name X.env (eval o X.env) = eval o X.env := by rfl)
    (hfew : ((backTo cpos (starEach (e :: es) X.env)).all (fun x => !x.1) && (backToKw cpos (keywordEach [] X.env)).all (fun x => x.1.isSome)
      && decide ((e :: es).length + ([] : List Keyword).length + (if ([] : List Keyword).isEmpty then 0 else 1) < 30)) = true := by rfl)
    (hline : (apos.endLine == cpos.line) = true := by rfl) (hs : starEach (e :: es) X.env = (false, eval e X.env) :: starEach es X.env := by rfl) (hplain : (backTo cpos (starEach es X.env)).any (·.1) = false := by rfl) :
    DE X (.Call (.Attribute o name apos) (e :: es) [] cpos) (dML r to t) := by
  refine ⟨peImp (pe_bm PySem.F.plainAttrs_list slot hty hm ho.pe ha.pa hbase hfew hline hs hplain) ?_⟩
  rintro σ H Q ⟨dσ, h, P, rs, rh, q, f⟩
  refine ⟨dσ, h, _, rs, rh, q, fun d h1 v H1 q1 k1 rh1 r1 => ?_⟩
  split at q1
  · rename_i a
    cases r1
    obtain ⟨xs, e1, q1⟩ := of_lstAt q1
    obtain ⟨vs, g1, t1⟩ := rh1.lst e1
    refine ⟨.inl ⟨rfl, vs, SqL.of g1⟩, dσ, h1, _, rs.keep k1, rh1, q1, fun ds h2 us H2 q2 k2 rh2 r2 => ?_⟩
    exact ⟨.ref a, ds, h2, P, rfl, r2, rh2, q2, f.keep (k1.trans k2)⟩
  · rename_i ys
    have r0 := r1
    obtain ⟨a, vs, rfl, s1, t1⟩ := r0
    refine ⟨.inl ⟨rfl, vs, s1.sq⟩, dσ, h1, _, rs.keep k1, rh1, q1, fun ds h2 us H2 q2 k2 rh2 r2 => ?_⟩
    exact ⟨.rol ys, ds, h2, P, RD.keep k2 _ _ r1, r2, rh2, q2, f.keep (k1.trans k2)⟩
  · exact q1.elim
def dML0 (r : DRM) (to : DTE) : DTE := fun σ h P => to σ h fun x h1 => match x with
  | .ref a => lstAt h1 a fun _ => r x [] h1 P
  | _ => False
theorem de_ml0 (slot : Slot "list" name id) (hty : typeOf (.builtin id) = pure (.type "method_descriptor")) (hm : MtR X id (LM X.K X.w r)) (ho : DE X o to)
    (hbase : attributeBase o name X.env (eval o X.env) = eval o X.env := by rfl) (hline : (apos.endLine == cpos.line) = true := by rfl) : DE X (.Call (.Attribute o name apos) [] [] cpos) (dML0 r to) := by
  refine ⟨peImp (pe_bm0 PySem.F.plainAttrs_list slot hty hm ho.pe hbase hline) ?_⟩
  rintro σ H Q ⟨dσ, h, P, rs, rh, q, f⟩
  refine ⟨dσ, h, _, rs, rh, q, fun d h1 v H1 q1 k1 rh1 r1 => ?_⟩
  split at q1
  · rename_i a
    cases r1
    obtain ⟨xs, e1, q1⟩ := of_lstAt q1
    obtain ⟨vs, g1, t1⟩ := rh1.lst e1
    exact ⟨.inl ⟨rfl, vs, SqL.of g1⟩, .ref a, [], h1, P, rfl, rfl, rh1, q1, f.keep k1⟩
  · exact q1.elim
def dAppend : DRM
  | .ref a, [d], h, P => lstAt h a fun xs => xs.length < sizeLine ∧ P .non (put h a (.lst (xs ++ [d])))
  | _, _, _, _ => False
theorem mt_dAppend : MtR X "list.append" (LM X.K X.w dAppend) := by
  intro pins s σ H x xs v us Q I rx rs q
  obtain ⟨d, ds, h, P, r1, r2, rh, q, f⟩ := q
  unfold dAppend at q
  split at q
  · cases r1
    obtain ⟨u, rfl, ru⟩ := r2.one
    obtain ⟨ys, e1, z, q⟩ := of_lstAt q
    obtain ⟨vs, g1, t1⟩ := rh.lst e1
    have n := RH.setL rh g1 (t1.append (RDs.cons ru (show RDs X.K X.w H [] [] from rfl)))
    exact mt_append pins s σ H _ _ v us Q I rx rs ⟨_, vs, u, rfl, rfl, g1, by rw [t1.length]; exact z, f _ _ _ _ q n.1 n.2 rfl⟩
  · exact q.elim
def dExtend : DRM
  | .ref a, [.ref b], h, P => lstAt h a fun xs => lstAt h b fun ys => xs.length + ys.length ≤ sizeLine ∧ P .non (put h a (.lst (xs ++ ys)))
  | _, _, _, _ => False
theorem mt_dExtend : MtR X "list.extend" (LM X.K X.w dExtend) := by
  intro pins s σ H x xs v us Q I rx rs q
  obtain ⟨d, ds, h, P, r1, r2, rh, q, f⟩ := q
  unfold dExtend at q
  split at q
  · cases r1
    obtain ⟨u, rfl, ru⟩ := r2.one
    cases ru
    obtain ⟨xs, e1, q⟩ := of_lstAt q
    obtain ⟨ys, e2, z, q⟩ := of_lstAt q
    obtain ⟨vs, g1, t1⟩ := rh.lst e1
    obtain ⟨ws, g2, t2⟩ := rh.lst e2
    have n := RH.setL rh g1 (t1.append t2)
    exact mt_extend pins s σ H _ _ v us Q I rx rs ⟨_, _, vs, ws, rfl, rfl, g1, g2, by rw [t1.length, t2.length]; exact z, f _ _ _ _ q n.1 n.2 rfl⟩
  · exact q.elim
/-- a text's method with one argument -/
def dMS (r : DRM) (to te : DTE) : DTE := fun σ h P => to σ h fun x h1 => match x with
  | .str _ => te σ h1 fun d h2 => r x [d] h2 P
  | _ => False
theorem de_ms (slot : Slot "str" name id) (ty : typeOf (.builtin id) = pure (.type "method_descriptor")) (hm : MtR X id (LM X.K X.w r)) (ho : DE X o to) (he : DE X e te)
    (hs : starEach [e] X.env = [(false, eval e X.env)] := by rfl) (hbase : attributeBase o name X.env (eval o X.env) = eval o X.env := by rfl) (hline : (apos.endLine == cpos.line) = true := by rfl) :
    DE X (.Call (.Attribute o name apos) [e] [] cpos) (dMS r to te) := by
  refine ⟨peImp (pe_m1 slot ty hm ho.pe he.pe hs hbase hline) ?_⟩
  rintro σ H Q ⟨dσ, h, P, rs, rh, q, f⟩
  refine ⟨dσ, h, _, rs, rh, q, fun d h1 v H1 q1 k1 rh1 r1 => ?_⟩
  split at q1
  · rename_i z
    cases r1
    refine ⟨⟨_, rfl⟩, dσ, h1, _, rs.keep k1, rh1, q1, fun d2 h2 u H2 q2 k2 rh2 r2 => ?_⟩
    exact ⟨.str z, [d2], h2, P, rfl, RDs.cons r2 (show RDs X.K X.w H2 [] [] from rfl), rh2, q2, f.keep (k1.trans k2)⟩
  · exact q1.elim
def dFind : DRM
  | .str a, [.str b], h, P => P (.int (Txt.find a b)) h
  | _, _, _, _ => False
theorem mt_dFind : MtR X "str.find" (LM X.K X.w dFind) := by
  intro pins s σ H x xs v us Q I rx rs q
  obtain ⟨d, ds, h, P, r1, r2, rh, q, f⟩ := q
  unfold dFind at q
  split at q
  · cases r1
    obtain ⟨u, rfl, ru⟩ := r2.one
    cases ru
    exact mt_find pins s σ H _ _ v us Q I rx rs ⟨_, _, rfl, rfl, f _ _ _ _ q (Keeps.refl _) rh rfl⟩
  · exact q.elim
def dJoin : DRM
  | .str a, [d], h, P => seqAt d h fun xs => ∃ ys, allS xs = some ys ∧ (ys.map (·.length)).sum + ys.length * a.length ≤ 16777216 ∧ P (.str (Txt.join a ys)) h
  | _, _, _, _ => False
theorem mt_dJoin : MtR X "str.join" (LM X.K X.w dJoin) := by
  intro pins s σ H x xs v us Q I rx rs q
  obtain ⟨d, ds, h, P, r1, r2, rh, q, f⟩ := q
  unfold dJoin at q
  split at q
  · cases r1
    obtain ⟨u, rfl, ru⟩ := r2.one
    obtain ⟨p, vs, xs, rfl, g1, t1, ys, e2, z, q⟩ := seq_of rh ru q
    rw [allS_vs e2 t1] at g1
    exact mt_join pins s σ H _ _ v us Q I rx rs ⟨_, _, ys, rfl, rfl, .inl g1, z, f _ _ _ _ q (Keeps.refl _) rh rfl⟩
  · exact q.elim
end

/-! ### own defs -/
abbrev DSp := List D → DH → DK → Prop
def LSp (K : PySem.W.Frag) (w : World) (sp : DSp) : Sp := fun vs H Q _ => ∃ ds h P, RDs K w H ds vs ∧ RH K w H h ∧ sp ds h P ∧ Fin K w H P Q
def Sub (h h' : DH) : Prop := ∀ a o, h a = some o → h' a = some o
theorem Sub.refl (h : DH) : Sub h h := fun _ _ e => e
theorem Sub.trans {a b c : DH} (x : Sub a b) (y : Sub b c) : Sub a c := fun p o e => y p o (x p o e)
theorem Sub.new {h : DH} {a : Addr} {o : DO} (n : h a = none) : Sub h (put h a o) := fun b u e => by
  rw [put_ne (fun q => by rw [q, n] at e; cases e)]; exact e
theorem Sub.put {h h' : DH} {a : Addr} {o : DO} (s : Sub h h') : Sub (DL.put h a o) (DL.put h' a o) := fun b u e => by
  by_cases q : b = a
  · subst q; rw [put_same] at e ⊢; exact e
  · rw [put_ne q] at e ⊢; exact s b u e
/-- what is told of a thing is weaker -/
def AbsO : DO → DO → Prop
  | .absl Φ, .lst xs => Φ xs
  | .absd Φ, .dct kvs => Φ kvs
  | .absl Φ, .absl Ψ => ∀ xs, Ψ xs → Φ xs
  | .absd Φ, .absd Ψ => ∀ kvs, Ψ kvs → Φ kvs
  | _, _ => False
def Abs (h0 h : DH) : Prop := ∀ a o, h0 a = some o → h a = some o ∨ ∃ u, h a = some u ∧ AbsO o u
theorem Abs.of {h0 h : DH} (s : Sub h0 h) : Abs h0 h := fun a o e => .inl (s a o e)
theorem RO.abs {K : PySem.W.Frag} {w : World} {H : Hp} {a : Addr} {o u : DO} (z : AbsO o u) (r : RO K w H a u) : RO K w H a o := by
  cases o with
  | absl Φ =>
    cases u with
    | lst xs => exact ⟨xs, z, r⟩
    | absl Ψ => obtain ⟨ds, p, r⟩ := r; exact ⟨ds, z ds p, r⟩
    | _ => exact z.elim
  | absd Φ =>
    cases u with
    | dct xs => exact ⟨xs, z, r⟩
    | absd Ψ => obtain ⟨ds, p, r⟩ := r; exact ⟨ds, z ds p, r⟩
    | _ => exact z.elim
  | _ => exact z.elim
theorem RH.abs {K : PySem.W.Frag} {w : World} {H : Hp} {h0 h : DH} (r : RH K w H h) (s : Abs h0 h) : RH K w H h0 := fun a o e => by
  rcases s a o e with q | ⟨u, q, z⟩
  · exact r a o q
  · exact (r a u q).abs z
/-- what is wanted, of less of the heap -/
def Wk (P : DK) : DK := fun d h => ∃ h0, Abs h0 h ∧ P d h0
theorem Wk.of {P : DK} {d : D} {h : DH} (q : P d h) : Wk P d h := ⟨h, Abs.of (Sub.refl h), q⟩
theorem Wk.to {P : DK} {d : D} {h h0 : DH} (s : Sub h0 h) (q : P d h0) : Wk P d h := ⟨h0, Abs.of s, q⟩
theorem Wk.by {P : DK} {d : D} {h h0 : DH} (s : Abs h0 h) (q : P d h0) : Wk P d h := ⟨h0, s, q⟩
def dstart (N : List Str) (ds : List D) : DSt := ds.map some ++ List.replicate (N.length - ds.length) none
theorem rs_start {K : PySem.W.Frag} {ω : World} {H : Hp} {N : List Str} {ds : List D} {vs : List V} (r : RDs K ω H ds vs) : RS K ω H (dstart N ds) (L2.start N vs) := by
  refine ⟨by unfold dstart L2.start; simp [r.length], fun i d e => ?_⟩
  unfold dstart at e
  unfold L2.start
  by_cases hi : i < ds.length
  · rw [List.getElem?_append_left (by simpa using hi), List.getElem?_map] at e
    rw [List.getElem?_append_left (by simpa [r.length] using hi), List.getElem?_map]
    cases q : ds[i]? with
    | none => rw [q] at e; cases e
    | some x =>
      rw [q] at e; cases e
      obtain ⟨v, ev, rv⟩ := r.get q
      exact ⟨v, by rw [ev]; rfl, rv⟩
  · rw [List.getElem?_append_right (by simpa using hi), List.getElem?_replicate] at e
    split at e <;> cases e
section
variable {P : Program} {w : World} {K : PySem.W.Frag} {mg : Str → Option Value} {base : Heap}
abbrev DFn (P : Program) (w : World) (K : PySem.W.Frag) (mg : Str → Option Value) (base : Heap) (k : Nat) (f : Addr) (fd : FuncData) (ps : List Str) (sp : DSp) : Prop := FnOk P w K mg base CX0 k f fd ps (LSp K w sp)
/-- THE RULE for a def of data -/
theorem dfn_ok {x qual : Str} {st : Stmt} {f : Addr} {fd : FuncData} {N ps : List Str} {k : Nat} {sp : DSp} (F : Fun K x qual st f fd) (S : FnScope N ps (defScope st)) (len : ∀ ds h Q, sp ds h Q → ds.length = ps.length)
    (hbody : ∀ (cdv : Value) (A : Around) (outer : List Env) (s : Shared) (H : Hp) (E : XK), Room k (A.deeper (envOfC qual (defScope st) s.heap.objs.size f cdv)) →
      ∃ t, DSs (cxOf CX0 P w K mg base N qual (defScope st) f cdv A outer s H E).nox (defBody st) t ∧ ∀ ds h Q, sp ds h Q → t { nx := fun _ => Wk Q .non, rt := Wk Q } (dstart N ds) h) : DFn P w K mg base (k + 1) f fd ps sp := by
  refine F.ok S (fun vs H Q E h => ?_) fun cdv A outer s H vs Q E hr h => ?_
  · obtain ⟨ds, dh, P', r, _, q, _⟩ := h
    rw [r.length]
    exact len _ _ _ q
  · obtain ⟨t, ht, hq⟩ := hbody cdv A outer s H E hr
    obtain ⟨ds, dh, P', r, rh, q, f⟩ := h
    refine ⟨_, ht.pss, dstart N ds, dh, _, rs_start r, rh, hq ds dh P' q, ⟨fun dσ h1 σ H1 q1 k1 rh1 rs1 => ?_, fun d h1 v H1 q1 k1 rh1 r1 => ?_, fun dσ h1 σ H1 q1 k1 rh1 rs1 => q1.elim, fun dσ h1 σ H1 q1 k1 rh1 rs1 => q1.elim⟩⟩
    · obtain ⟨h0, s0, q0⟩ := q1
      exact f _ _ _ _ q0 k1 (rh1.abs s0) rfl
    · obtain ⟨h0, s0, q0⟩ := q1
      exact f _ _ _ _ q0 k1 (rh1.abs s0) r1
end
section
variable {X : Cx} {k : Nat} {f C : Addr} {fd : FuncData} {ps : List Str} {sp : DSp} {x m : Str} {p pos apos : Pos} {e o : Expr} {es : List Expr} {ta : DTE} {t : DTA}
theorem de_call (F : DFn X.prog X.w X.K X.mg X.base k f fd ps sp) (hr : Room k X.A) (hg : Gl X x) (hm : X.mg x = some (.ref f)) (hk : PySem.W.keepIn X.K (.ref f) = true) (hb : Binds X.K fd ps [])
    (ha : DA X (e :: es) t) (hdb : (x == ("__debug__" : Str)) = false := by decide) (he : starEach (e :: es) X.env = (false, eval e X.env) :: starEach es X.env := by rfl) (hpl : (backTo pos (starEach es X.env)).any (·.1) = false := by rfl) :
    DE X (.Call (.Name x p) (e :: es) [] pos) (dCall sp t) := by
  refine ⟨peImp (pe_call F hr hg hm hk hb .nil pass0 ha.pa hdb he hpl) ?_⟩
  rintro σ H Q ⟨dσ, h, P, rs, rh, q, f⟩
  refine ⟨dσ, h, _, rs, rh, q, fun ds h1 vs H1 q1 k1 rh1 r1 => ?_⟩
  exact ⟨ds, h1, P, by rw [List.append_nil]; exact r1, rh1, q1, f.keep k1⟩
theorem de_call0 (F : DFn X.prog X.w X.K X.mg X.base k f fd ps sp) (hr : Room k X.A) (hg : Gl X x) (hm : X.mg x = some (.ref f)) (hk : PySem.W.keepIn X.K (.ref f) = true) (hb : Binds X.K fd ps [])
    (hdb : (x == ("__debug__" : Str)) = false := by decide) : DE X (.Call (.Name x p) [] [] pos) (dCall sp dNil) := by
  refine ⟨peImp (pe_call0 F hr hg hm hk hb .nil pass0 hdb) ?_⟩
  rintro σ H Q ⟨dσ, h, P, rs, rh, q, f⟩
  exact ⟨[], h, P, rfl, rh, q, f⟩
/-- an instance that is read: its map -/
theorem ins_map {Pr : Program} {wd : World} {Hh : Hp} {hp : Heap} {a C dx : Addr} {fs : List (Str × V)} (ok : HOk Pr wd Hh hp) (e : Rd Hh a (.ins C dx fs)) : ∃ mA, ObjM hp a dx C mA ∧ ∀ g, RelO (fs.lookup g) (mA g) := by
  have z : ObjOk Pr wd Hh hp a (.ins C dx fs) := e.ok ok
  obtain ⟨_, _, z1, z2, mA, z3, z4, _⟩ := z
  exact ⟨mA, ⟨z2, z3, z1⟩, z4⟩
theorem rfs_zip {K : PySem.W.Frag} {w : World} {H : Hp} : ∀ {ns : List Str} {ws : List D} {us : List V}, RDs K w H ws us → RFs K w H (ns.zip ws) (ns.zip us)
  | [], _, _, _ => .nil
  | n :: ns, [], _, r => by rw [RDs.nil_ r]; exact .nil
  | n :: ns, d :: ws, _, ⟨v, us, e, r1, r2⟩ => by
    subst e
    exact .cons ⟨rfl, r1⟩ (rfs_zip r2)
/-- a receiver of the class, without an attribute of that name -/
def recvAt (d : D) (h : DH) (C : Addr) (m : Str) (k : Prop) : Prop := match d with
  | .ref a => insAt h a fun C' fs => (C' = C ∧ fs.lookup m = none) ∧ k
  | .obj C' ns ws => (C' = C ∧ (ns.zip ws).lookup m = none) ∧ k
  | _ => False
/-- o.m(..) of an own class -/
def dMeth (C : Addr) (m : Str) (sp : DSp) (ta : DTE) (t : DTA) : DTE := fun σ h P => ta σ h fun d h1 => recvAt d h1 C m (t σ h1 fun ds h2 => sp (d :: ds) h2 P)
theorem RFs.none {K : PySem.W.Frag} {ω : World} {H : Hp} {fs : List (Str × D)} {vs : List (Str × V)} (r : RFs K ω H fs vs) {m : Str} (e : fs.lookup m = none) : vs.lookup m = none := by
  induction r with
  | nil => rfl
  | @cons p q ps qs h t ih =>
    obtain ⟨a, b⟩ := p
    obtain ⟨c, d⟩ := q
    obtain ⟨h1, _⟩ := h
    simp only at h1
    subst h1
    rw [List.lookup_cons] at e ⊢
    cases z : m == a with
    | true => rw [z] at e; cases e
    | false => rw [z] at e; exact ih e
theorem RFs.look {K : PySem.W.Frag} {ω : World} {H : Hp} {fs : List (Str × D)} {vs : List (Str × V)} (r : RFs K ω H fs vs) {m : Str} {d : D} (e : fs.lookup m = some d) : ∃ v, vs.lookup m = some v ∧ RD K ω H d v := by
  induction r with
  | nil => cases e
  | @cons p q ps qs h t ih =>
    obtain ⟨a, b⟩ := p
    obtain ⟨c, d'⟩ := q
    obtain ⟨h1, h2⟩ := h
    simp only at h1 h2
    subst h1
    rw [List.lookup_cons] at e ⊢
    cases z : m == a with
    | true => rw [z] at e; cases e; exact ⟨d', rfl, h2⟩
    | false => rw [z] at e; exact ih e
/-- what a receiver is, at the machine's level -/
theorem recv_of {X : Cx} {C : Addr} {m : Str} {k : Prop} {H1 : Hp} {h1 : DH} {d : D} {v : V} (rh1 : RH X.K X.w H1 h1) (rd : RD X.K X.w H1 d v) (q1 : recvAt d h1 C m k) :
    ∃ a dx vfs, v = .ref a ∧ Rd H1 a (.ins C dx vfs) ∧ vfs.lookup m = none ∧ k := by
  unfold recvAt at q1
  cases d with
  | ref a0 =>
    cases rd
    obtain ⟨C', fs, e1, ⟨rfl, lk⟩, q3⟩ := of_insAt q1
    obtain ⟨dx, vfs, g1, t1⟩ := rh1 _ _ e1
    exact ⟨_, dx, vfs, rfl, .inl g1, t1.none lk, q3⟩
  | obj C' ns ws =>
    obtain ⟨⟨rfl, lk⟩, q3⟩ := q1
    obtain ⟨a, o, dx, us, rfl, g1, _, r2⟩ := rd
    exact ⟨a, dx, _, rfl, .inr ⟨o, g1⟩, (rfs_zip r2).none lk, q3⟩
  | _ => exact q1.elim
theorem get_method {X : Cx} {pins : List (Addr × Obj)} {σ : L2.St} {H : Hp} {s : Shared} {a C dx g : Addr} {fs : List (Str × V)} {m : Str} {A : Around} {E : Value → Shared → Prop} {pl : Sem Bool} {Q : Value × List Value → Shared → Prop}
    (I : L2.Inv X pins σ H s) (e : Rd H a (.ins C dx fs)) (c : Cls X.K C) (k : Meth X.K C m g) (l : fs.lookup m = none) (q : Q (.ref g, [.ref a]) s) : wpAny (model X.prog X.w) A (getMethod (.ref a) m pl) Q E s := by
  obtain ⟨mA, O, z⟩ := ins_map I.hok e
  have z1 := z m
  rw [l] at z1
  exact get_meth I.kIn O (c.get m) k.at_ k.fn (RelO.none_of z1) q
theorem de_meth {pl : Sem Bool} (he : DE X o ta) (c : Cls X.K C) (hm : Meth X.K C m f) (F : DFn X.prog X.w X.K X.mg X.base k f fd ps sp) (hr : Room k X.A) (hb : Binds X.K fd ps []) (ha : DA X (e :: es) t)
    (hst : starEach (e :: es) X.env = (false, eval e X.env) :: starEach es X.env := by rfl) (hpl : (backTo pos (starEach es X.env)).any (·.1) = false := by rfl)
    (ht : eval (.Call (.Attribute o m apos) (e :: es) [] pos) X.env = (do
      let ov ← eval o X.env
      standAt apos.atName
      let (f, first) ← holding [ov] (getMethod ov m pl)
      callWith pos f first (backTo pos (starEach (e :: es) X.env)) (backToKw pos (keywordEach [] X.env))) := by rfl) :
    DE X (.Call (.Attribute o m apos) (e :: es) [] pos) (dMeth C m sp ta t) := by
  refine ⟨⟨fun pins s σ H Q I ⟨dσ, h, P, rs, rh, q, f⟩ => ?_⟩⟩
  refine PySem.W.methodCall_KW (pl := pl) (thn (he.pe.run pins s σ H (fun v H1 => ∃ a dx vfs d h1, v = .ref a ∧ Rd H1 a (.ins C dx vfs) ∧ vfs.lookup m = none ∧ RD X.K X.w H1 d (.ref a) ∧ RH X.K X.w H1 h1 ∧ Keeps H H1 ∧ t dσ h1 fun ds h2 => sp (d :: ds) h2 P) I
    ⟨dσ, h, _, rs, rh, q, fun d h1 v H1 q1 k1 rh1 r1 => ?_⟩) fun u s1 ⟨x, H1, I1, rx, a, dx, vfs, d, h1, ex, ea, l, rd, rh1, k1, q1⟩ => ?_) ht
  · obtain ⟨a, dx, vfs, rfl, g1, l, q3⟩ := recv_of rh1 r1 q1
    exact ⟨a, dx, vfs, d, h1, rfl, g1, l, r1, rh1, k1, q3⟩
  · subst ex
    cases rx
    refine get_method I1 ea c hm l ?_
    refine PySem.W.callWith_K (first := [.ref a]) (h₀ := X.base) I1.ok.mod.kin hm.kp (thn (ha.pa.run pos pins s1 σ H1 (fun vs H2 => LSp X.K X.w sp (.ref a :: vs) H2 Q fun _ _ _ => False) I1 ⟨dσ, h1, _, rs.keep k1, rh1, q1, fun ds h2 us H2 q2 k2 rh2 r2 => ?_⟩) fun us s2 ⟨vs, H2, I2, r, q2⟩ => ⟨I2.kIn, ?_⟩) hst hpl
    · exact ⟨d :: ds, h2, P, RDs.cons (RD.keep k2 _ _ rd) r2, rh2, q2, f.keep (k1.trans k2)⟩
    · exact run_fn (us := .ref a :: us) (vs := .ref a :: vs) (dvs := []) (ds := []) F hr hb .nil pass0 I2 (.cons rfl r) (by rw [List.append_nil]; exact q2)
theorem de_meth0 {pl : Sem Bool} (he : DE X o ta) (c : Cls X.K C) (hm : Meth X.K C m f) (F : DFn X.prog X.w X.K X.mg X.base k f fd ps sp) (hr : Room k X.A) (hb : Binds X.K fd ps [])
    (ht : eval (.Call (.Attribute o m apos) [] [] pos) X.env = (do
      let ov ← eval o X.env
      standAt apos.atName
      let (f, first) ← holding [ov] (getMethod ov m pl)
      callWith pos f first (backTo pos (starEach [] X.env)) (backToKw pos (keywordEach [] X.env))) := by rfl) :
    DE X (.Call (.Attribute o m apos) [] [] pos) (dMeth C m sp ta dNil) := by
  refine ⟨⟨fun pins s σ H Q I ⟨dσ, h, P, rs, rh, q, f⟩ => ?_⟩⟩
  refine PySem.W.methodCall_KW (pl := pl) (thn (he.pe.run pins s σ H (fun v H1 => ∃ a dx vfs d h1, v = .ref a ∧ Rd H1 a (.ins C dx vfs) ∧ vfs.lookup m = none ∧ RD X.K X.w H1 d (.ref a) ∧ RH X.K X.w H1 h1 ∧ Keeps H H1 ∧ sp [d] h1 P) I
    ⟨dσ, h, _, rs, rh, q, fun d h1 v H1 q1 k1 rh1 r1 => ?_⟩) fun u s1 ⟨x, H1, I1, rx, a, dx, vfs, d, h1, ex, ea, l, rd, rh1, k1, q1⟩ => ?_) ht
  · obtain ⟨a, dx, vfs, rfl, g1, l, q3⟩ := recv_of rh1 r1 q1
    exact ⟨a, dx, vfs, d, h1, rfl, g1, l, r1, rh1, k1, q3⟩
  · subst ex
    cases rx
    refine get_method I1 ea c hm l ?_
    refine PySem.W.callWith_K0 (first := [.ref a]) I1.kIn hm.kp (run_fn (us := [.ref a]) (vs := [.ref a]) (dvs := []) (ds := []) F hr hb .nil pass0 I1 (.cons rfl .nil) ?_)
    exact ⟨[d], h1, P, RDs.cons rd (show RDs X.K X.w H1 [] [] from rfl), rh1, q1, f.keep k1⟩
/-- C(..) -/
def dMake (C : Addr) (sp : DSp) (t : DTA) : DTE := fun σ h P => t σ h fun ds h1 => ∀ x, h1 x = none → sp (.ref x :: ds) (put h1 x (.ins C [])) fun d h2 => d = .non ∧ P (.ref x) h2
theorem RH.made {K : PySem.W.Frag} {w : World} {H : Hp} {h : DH} {x dx : Addr} (r : RH K w H h) (nx : H x = none) (nd : H dx = none) (ne : dx ≠ x) :
    Keeps H (upd (upd H dx (.own x)) x (.ins C dx [])) ∧ RH K w (upd (upd H dx (.own x)) x (.ins C dx [])) (put h x (.ins C [])) := by
  have k1 : Keeps H (upd H dx (.own x)) := Keeps.new nd
  have k2 : Keeps (upd H dx (.own x)) (upd (upd H dx (.own x)) x (.ins C dx [])) := Keeps.new (by rw [upd_ne ne.symm]; exact nx)
  exact ⟨k1.trans k2, (r.hide (r.free nd) k1).wr k2 ⟨dx, [], upd_same, .nil⟩⟩
theorem de_make (M : Mk X.K C f) (F : DFn X.prog X.w X.K X.mg X.base k f fd ps sp) (hr : Room (k + 1) X.A) (hg : Gl X x) (hm : X.mg x = some (.ref C)) (hb : Binds X.K fd ps [])
    (ha : DA X (e :: es) t) (hdb : (x == ("__debug__" : Str)) = false := by decide) (he : starEach (e :: es) X.env = (false, eval e X.env) :: starEach es X.env := by rfl) (hpl : (backTo pos (starEach es X.env)).any (·.1) = false := by rfl) :
    DE X (.Call (.Name x p) (e :: es) [] pos) (dMake C sp t) := by
  refine ⟨peImp (pe_make M F hr hg hm hb .nil pass0 ha.pa hdb he hpl) ?_⟩
  rintro σ H Q ⟨dσ, h, P, rs, rh, q, f⟩
  refine ⟨dσ, h, _, rs, rh, q, fun ds h1 vs H1 q1 k1 rh1 r1 y dy ny nd ne => ?_⟩
  have n := RH.made (C := C) rh1 ny nd ne
  refine ⟨.ref y :: ds, _, _, by rw [List.append_nil]; exact RDs.cons (d := .ref y) rfl (RDs.keep n.1 _ _ r1), n.2, q1 y (rh1.free ny), fun d h2 v H2 q2 k2 rh2 r2 => ?_⟩
  obtain ⟨rfl, q2⟩ := q2
  exact ⟨r2, f _ _ _ _ q2 (k1.trans (n.1.trans k2)) rh2 rfl⟩
theorem de_make0 (M : Mk X.K C f) (F : DFn X.prog X.w X.K X.mg X.base k f fd ps sp) (hr : Room (k + 1) X.A) (hg : Gl X x) (hm : X.mg x = some (.ref C)) (hb : Binds X.K fd ps [])
    (hdb : (x == ("__debug__" : Str)) = false := by decide) : DE X (.Call (.Name x p) [] [] pos) (dMake C sp dNil) := by
  refine ⟨peImp (pe_make0 M F hr hg hm hb .nil pass0 hdb) ?_⟩
  rintro σ H Q ⟨dσ, h, P, rs, rh, q, f⟩ y dy ny nd ne
  have n := RH.made (C := C) rh ny nd ne
  refine ⟨[.ref y], _, _, RDs.cons (d := .ref y) rfl rfl, n.2, q y (rh.free ny), fun d h2 v H2 q2 k2 rh2 r2 => ?_⟩
  obtain ⟨rfl, q2⟩ := q2
  exact ⟨r2, f _ _ _ _ q2 (n.1.trans k2) rh2 rfl⟩
/-- the class lets its instances have this attribute -/
structure HasA (K : PySem.W.Frag) (C : Addr) (f : Str) : Prop where
  cl : Cls K C
  na : NoAttr K C f
def fldAt (K : PySem.W.Frag) (d : D) (h : DH) (f : Str) (k : D → Prop) : Prop := match d with
  | .ref a => insAt h a fun C fs => HasA K C f ∧ oAt (fs.lookup f) k
  | .obj C ns ws => HasA K C f ∧ oAt ((ns.zip ws).lookup f) k
  | _ => False
def dFld (K : PySem.W.Frag) (ta : DTE) (f : Str) : DTE := fun σ h P => ta σ h fun d h1 => fldAt K d h1 f fun d => P d h1
/-- a thing of the class with these attributes: one that stands or one by value -/
def SelfAt (h : DH) (d : D) (C : Addr) (fs : List (Str × D)) : Prop := (∃ a, d = .ref a ∧ h a = some (.ins C fs)) ∨ d = .obj C (fs.map (·.1)) (fs.map (·.2))
theorem zip_maps {α β : Type} : ∀ xs : List (α × β), (xs.map (·.1)).zip (xs.map (·.2)) = xs
  | [] => rfl
  | p :: r => by rw [List.map_cons, List.map_cons, List.zip_cons_cons, zip_maps r]
theorem SelfAt.sub {h h' : DH} {d : D} {C : Addr} {fs : List (Str × D)} (z : SelfAt h d C fs) (s : Sub h h') : SelfAt h' d C fs := by
  rcases z with ⟨a, e, q⟩ | e
  · exact .inl ⟨a, e, s _ _ q⟩
  · exact .inr e
theorem fld_self {K : PySem.W.Frag} {h : DH} {d : D} {C : Addr} {fs : List (Str × D)} {f : Str} {v : D} {k : D → Prop} (z : SelfAt h d C fs) (hA : HasA K C f) (l : fs.lookup f = some v) (q : k v) : fldAt K d h f k := by
  rcases z with ⟨a, rfl, e⟩ | rfl
  · unfold fldAt insAt
    dsimp only
    rw [e]
    refine ⟨hA, ?_⟩
    rw [l]
    exact q
  · unfold fldAt
    dsimp only
    rw [zip_maps, l]
    exact ⟨hA, q⟩
theorem recv_self {h : DH} {d : D} {C : Addr} {fs : List (Str × D)} {m : Str} {k : Prop} (z : SelfAt h d C fs) (l : fs.lookup m = none) (q : k) : recvAt d h C m k := by
  rcases z with ⟨a, rfl, e⟩ | rfl
  · unfold recvAt insAt
    dsimp only
    rw [e]
    exact ⟨⟨rfl, l⟩, q⟩
  · unfold recvAt
    dsimp only
    rw [zip_maps]
    exact ⟨⟨rfl, l⟩, q⟩
theorem de_fld {f : Str} (he : DE X o ta) (hb : attributeBase o f X.env (eval o X.env) = eval o X.env := by rfl) : DE X (.Attribute o f pos) (dFld X.K ta f) := by
  refine ⟨⟨fun pins s σ H Q I ⟨dσ, h, P, rs, rh, q, fn⟩ => ?_⟩⟩
  refine attr_of hb (thn (he.pe.run pins s σ H (fun x H1 => ∃ a C dx vfs v, x = .ref a ∧ Rd H1 a (.ins C dx vfs) ∧ HasA X.K C f ∧ vfs.lookup f = some v ∧ Q v H1) I ⟨dσ, h, _, rs, rh, q, fun d h1 v H1 q1 k1 rh1 r1 => ?_⟩) fun u s1 ⟨x, H1, I1, rx, a, C, dx, vfs, v, ex, ea, hA, l, q1⟩ => ?_)
  · unfold fldAt at q1
    split at q1
    · cases r1
      obtain ⟨C', fs, e1, hA, q1⟩ := of_insAt q1
      obtain ⟨d, lk, q1⟩ := of_oAt q1
      obtain ⟨dx, vfs, g1, t1⟩ := rh1 _ _ e1
      obtain ⟨v, lv, rv⟩ := t1.look lk
      exact ⟨_, C', dx, vfs, v, rfl, .inl g1, hA, lv, fn _ _ _ _ q1 k1 rh1 rv⟩
    · obtain ⟨hA, q1⟩ := q1
      obtain ⟨d, lk, q1⟩ := of_oAt q1
      obtain ⟨a, o, dx, us, rfl, g1, _, r2⟩ := r1
      obtain ⟨v, lv, rv⟩ := (rfs_zip r2).look lk
      exact ⟨a, _, dx, _, v, rfl, .inr ⟨o, g1⟩, hA, lv, fn _ _ _ _ q1 k1 rh1 rv⟩
    · exact q1.elim
  · subst ex
    cases rx
    obtain ⟨mA, O, z⟩ := ins_map I1.hok ea
    obtain ⟨u, hu, ru⟩ := RelO.some_of (v := v) (o := mA f) (by rw [← l]; exact z f)
    exact get_map I1.kIn O (hA.cl.get f) hA.cl.hd hA.na hu (handed_of ru) ⟨v, H1, I1.tok _, ru, q1⟩
def putA (f : Str) (d : D) : List (Str × D) → List (Str × D)
  | [] => [(f, d)]
  | p :: r => if p.1 = f then (p.1, d) :: r else p :: putA f d r
theorem RFs.put {K : PySem.W.Frag} {ω : World} {H : Hp} {f : Str} {d : D} {v : V} (h : RD K ω H d v) {fs : List (Str × D)} {vs : List (Str × V)} (r : RFs K ω H fs vs) : RFs K ω H (putA f d fs) (putF f v vs) := by
  induction r with
  | nil => exact .cons ⟨rfl, h⟩ .nil
  | @cons p q ps qs h' t ih =>
    obtain ⟨a, b⟩ := p
    obtain ⟨c, e⟩ := q
    obtain ⟨h1, h2⟩ := h'
    simp only at h1 h2
    subst h1
    show Paired _ (if a = f then (a, d) :: ps else (a, b) :: putA f d ps) (if a = f then (a, v) :: qs else (a, e) :: putF f v qs)
    by_cases z : a = f
    · rw [if_pos z, if_pos z]; exact .cons ⟨rfl, h⟩ t
    · rw [if_neg z, if_neg z]; exact .cons ⟨rfl, h2⟩ ih
def sFld (K : PySem.W.Frag) (ta tv : DTE) (f : Str) : DTS := fun E σ h => tv σ h fun y h1 => ta σ h1 fun d h2 => match d with
  | .ref a => insAt h2 a fun C fs => HasA K C f ∧ fs.length < 1000 ∧ E.nx σ (put h2 a (.ins C (putA f y fs)))
  | _ => False
theorem ds_fld {f : Str} {value : Expr} {tv : DTE} {pos' : Pos} (ha : DE X o ta) (hv : DE X value tv) (hs : swapsWith value (some (.Attribute o f pos')) pos.line X.env = pure false := by rfl) : DS X (.Assign [.Attribute o f pos'] value pos) (sFld X.K ta tv f) := by
  refine ⟨psImp (ps_fld ha.pe hv.pe hs) ?_⟩
  rintro Q σ H ⟨dσ, h, E, rs, rh, q, fn⟩
  refine ⟨dσ, h, _, rs, rh, q, fun y h1 v H1 q1 k1 rh1 r1 => ?_⟩
  refine ⟨dσ, h1, _, rs.keep k1, rh1, q1, fun d h2 u H2 q2 k2 rh2 r2 => ?_⟩
  split at q2
  · cases r2
    obtain ⟨C', fs, e1, hA, z, q2⟩ := of_insAt q2
    obtain ⟨dx, vfs, g1, t1⟩ := rh2 _ _ e1
    have ry := RD.keep k2 _ _ r1
    have kk : Keeps H2 (upd H2 _ (.ins C' dx (putF f v vfs))) := Keeps.over g1 True.intro
    refine ⟨_, C', dx, vfs, rfl, g1, hA.cl, hA.na, by rw [← Paired.length t1]; exact z, ?_⟩
    exact fn.nx _ _ _ _ q2 (k1.trans (k2.trans kk)) (rh2.wr kk ⟨dx, _, upd_same, (t1.put ry).keep kk⟩) (rs.keep (k1.trans (k2.trans kk)))
  · exact q2.elim
end
end DL
/-! D7: dicts whose keys are data of any kind (numbers, texts, None, tuples of such), at the machine's level. -/
namespace DL
open PySem PySem.Spec PyProof.Rows L2

abbrev Ent := NestedKey × Value × Value
abbrev entG (w : World) (x : Ent) : DictEntry := ⟨x.1.hash w, x.2.1, x.2.2⟩
theorem arr_find {α : Type} (es : Array α) (p : α → Bool) : es.findIdx? p = es.toList.findIdx? p := by
  cases es with | mk l => simp
/-- where the key stands among the entries -/
abbrev ixOf (xs : List Ent) (k : NestedKey) : Option Nat := xs.findIdx? fun x => decide (x.1 = k)
theorem ix_none {xs : List Ent} {k : NestedKey} (h : ∀ (j : Nat) (x : Ent), xs[j]? = some x → x.1 ≠ k) : ixOf xs k = none := by
  rw [ixOf, List.findIdx?_eq_none_iff]
  intro x hx
  obtain ⟨j, hj⟩ := List.mem_iff_getElem?.mp hx
  exact decide_eq_false (h j x hj)
theorem ix_some {xs : List Ent} {k : NestedKey} (hn : (xs.map (·.1)).Nodup) {j : Nat} {x : Ent} (h : xs[j]? = some x) (e : x.1 = k) : ixOf xs k = some j := by
  obtain ⟨hj, ej⟩ := List.getElem?_eq_some_iff.mp h
  rw [ixOf, List.findIdx?_eq_some_iff_getElem]
  refine ⟨hj, by rw [ej]; exact decide_eq_true e, fun i hi => ?_⟩
  have hi' : i < xs.length := Nat.lt_trans hi hj
  have ne : ¬ xs[i].1 = k := fun z => by
    have a1 : (xs.map (·.1))[i]'(by simpa using hi') = (xs.map (·.1))[j]'(by simpa using hj) := by simp [z, ej, e]
    have := (List.getElem_inj hn).mp a1
    omega
  simp [ne]
section
variable {prog : Program} {w : World} {A : Around} {E : Value → Shared → Prop} {s : Shared} {d : Addr} {o : Obj} {es : Array DictEntry} {ep : Nat} {xs : List Ent} {k : NestedKey} {v : Value}

/-- the keys are keys -/
abbrev KeysIn (h : Heap) (xs : List Ent) : Prop := ∀ x ∈ xs, NestedIs h x.1 x.2.1 ∧ x.1.depth ≤ 7
theorem es_at (he : es.toList = xs.map (entG w)) (j : Nat) : es[j]? = (xs[j]?).map (entG w) := by
  rw [← Array.getElem?_toList, he, List.getElem?_map]
theorem es_size (he : es.toList = xs.map (entG w)) : es.size = xs.length := by
  rw [← Array.length_toList, he, List.length_map]
theorem eqB_key {x : NestedKey} {u : Value} {Q : Bool → Shared → Prop} (hu : A.units + 8 < cLine) (hx : NestedIs s.heap x u) (dx : x.depth ≤ 7) (hk : NestedIs s.heap k v) (h : Q (decide (x = k)) s) : wpAny (model prog w) A (eqBool u v) Q E s :=
  eqAt_key x k A s u v hx hk (by omega) _ _ _ _ (by rw [← NestedKey.decide_eq]; exact h)
theorem str_key {h : Heap} {x : NestedKey} {u : Value} (y : Str) (hx : NestedIs h x u) : u.isStr y = decide (x = .text y) := by
  cases hx with
  | none => simp [Value.isStr]
  | bool _ => simp [Value.isStr]
  | int i t => simp [Value.isStr]
  | text z t =>
    by_cases e : z = y
    · subst e; simp [Value.isStr]
    · simp [Value.isStr, e]
  | tup _ _ _ _ => simp [Value.isStr]
/-- the state of the search: nothing found ahead of i -/
structure Upto (w : World) (es : Array DictEntry) (xs : List Ent) (k : NestedKey) (rest : List Nat) (i : Nat) : Prop where
  le : i ≤ es.size
  rest : rest = (List.range' i (es.size - i)).filter fun i => (es[i]?.map (·.hash)) == some (k.hash w)
/-- the next place to look at -/
theorem Upto.step {rest : List Nat} {i x : Nat} (he : es.toList = xs.map (entG w)) (u : Upto w es xs k (x :: rest) i) :
    i ≤ x ∧ (∃ y, xs[x]? = some y ∧ es[x]? = some (entG w y)) ∧ Upto w es xs k rest (x + 1) ∧ ∀ j y, i ≤ j → j < x → xs[j]? = some y → y.1 ≠ k := by
  obtain ⟨h1, h2, _, h4, h5⟩ := filter_range'_cons _ _ _ _ _ u.rest.symm
  have le := u.le
  have hx : x < es.size := by omega
  have hx' : x < xs.length := by rw [← es_size he]; exact hx
  refine ⟨h1, ⟨xs[x], List.getElem?_eq_getElem hx', by rw [es_at he, List.getElem?_eq_getElem hx']; rfl⟩, ⟨hx, ?_⟩, fun j y hj1 hj2 ey z => ?_⟩
  · rw [h5]; congr 2; omega
  · have q := h4 j hj1 hj2
    rw [es_at he, ey] at q
    simp [z] at q
theorem Upto.stop {i : Nat} (he : es.toList = xs.map (entG w)) (u : Upto w es xs k [] i) : ∀ j y, i ≤ j → xs[j]? = some y → y.1 ≠ k := by
  intro j y hj ey z
  have hl : j < xs.length := (List.getElem?_eq_some_iff.mp ey).1
  have le := u.le
  rw [← es_size he] at hl
  have q := List.filter_eq_nil_iff.mp u.rest.symm j (List.mem_range'_1.mpr ⟨hj, by omega⟩)
  rw [es_at he, ey] at q
  simp [z] at q
theorem Upto.begin_ : Upto w es xs k (placesWithHash es.size (fun i => es[i]?.map (·.hash)) (k.hash w)) 0 :=
  ⟨Nat.zero_le _, by rw [placesWithHash, List.range_eq_range', Nat.sub_zero]⟩

/-- THE SEARCH -/
theorem find_g {Q : Option Nat → Shared → Prop} (hu : A.units + 8 < cLine) (hv : NestedIs s.heap k v) (hk : k.depth ≤ 7) (ho : s.heap.get? d = some o) (hd : o.data = .dict es ep) (he : es.toList = xs.map (entG w))
    (his : KeysIn s.heap xs) (hn : (xs.map (·.1)).Nodup) (h : Q (ixOf xs k) s) : wpAny (model prog w) A (dictFind d v (k.hash w)) Q E s := by
  have memE : ∀ e ∈ es, ∃ x ∈ xs, e = entG w x := fun e hin => by
    have z : e ∈ xs.map (entG w) := he ▸ Array.mem_toList_iff.mpr hin
    obtain ⟨x, hx, rfl⟩ := List.mem_map.mp z
    exact ⟨x, hx, rfl⟩
  have memS : ∀ u ∈ (placesWithHash es.size (fun i => es[i]?.map (·.hash)) (k.hash w)).filterMap (fun i => es[i]?.map (·.key)), ∃ x ∈ xs, u = x.2.1 := fun u hin => by
    obtain ⟨i, _, hi⟩ := List.mem_filterMap.mp hin
    cases q : es[i]? with
    | none => rw [q] at hi; cases hi
    | some e =>
      rw [q] at hi
      obtain ⟨x, hx, rfl⟩ := memE e (Array.mem_of_getElem? q)
      exact ⟨x, hx, (Option.some.inj hi).symm⟩
  -- the walk with or without the table
  have plain : wpAny (model prog w) A (dictWalkPlain d v (k.hash w) es (placesWithHash es.size (fun i => es[i]?.map (·.hash)) (k.hash w))) Q E s := by
    unfold dictWalkPlain
    refine wpAny_bind ?_
    refine wpAny_forIn_list _ (fun rest b s' => s' = s ∧ b = (none, ()) ∧ ∃ i, Upto w es xs k rest i ∧ ∀ j y, j < i → xs[j]? = some y → y.1 ≠ k) _ ?_ ?_ _ _ ⟨rfl, rfl, 0, Upto.begin_, fun _ _ z => absurd z (Nat.not_lt_zero _)⟩
    · rintro x rest b s' ⟨rfl, rfl, i, u, no⟩
      obtain ⟨hix, ⟨y, ey, ee⟩, u', no'⟩ := u.step he
      have ahead : ∀ j z, j < x → xs[j]? = some z → z.1 ≠ k := fun j z hj ez => by
        by_cases q : j < i
        · exact no j z q ez
        · exact no' j z (by omega) hj ez
      obtain ⟨hy, hyd⟩ := his y (List.mem_of_getElem? ey)
      rw [ee]
      dsimp only
      by_cases hh : (y.1.hash w == k.hash w) = true
      · rw [if_pos hh]
        refine wpAny_bind (wpAny_dictEpoch ho hd (wpAny_bind (eqB_key hu hy hyd hv (wpAny_bind (wpAny_dictEpoch ho hd ?_)))))
        rw [if_neg (show ¬ (ep != ep) = true by simp)]
        by_cases yk : y.1 = k
        · rw [decide_eq_true yk]
          rw [ix_some hn ey yk] at h
          exact wpAny_bind (wpAny_rule (wpAny_pure (wpAny_pure h)))
        · rw [decide_eq_false yk]
          refine wpAny_bind (wpAny_rule (wpAny_pure ⟨rfl, rfl, x + 1, u', fun j z hj ez => ?_⟩))
          by_cases q : j < x
          · exact ahead j z q ez
          · have : j = x := by omega
            subst this; rw [ey] at ez; cases ez; exact yk
      · rw [if_neg hh]
        refine wpAny_pure ⟨rfl, rfl, x + 1, u', fun j z hj ez => ?_⟩
        by_cases q : j < x
        · exact ahead j z q ez
        · have : j = x := by omega
          subst this; rw [ey] at ez; cases ez
          intro yk; rw [yk] at hh; simp at hh
    · rintro b s' ⟨rfl, rfl, i, u, no⟩
      rw [ix_none fun j y ey => by
        by_cases q : j < i
        · exact no j y q ey
        · exact u.stop he j y (by omega) ey] at h
      exact wpAny_pure h
  have rest_ : wpAny (model prog w) A (do
      let stored := (placesWithHash es.size (fun i => es[i]?.map (·.hash)) (k.hash w)).filterMap fun i => es[i]?.map (·.key)
      let tells ← if stored == [v] then pure false else tableMayTell v stored
      if tells && stored.length ≥ 2 then unsupported "dict.find:order-among-keys-of-one-hash"
      let mut hit : Option Nat := none
      for i in placesWithHash es.size (fun i => es[i]?.map (·.hash)) (k.hash w) do
        if let some e := es[i]? then
          if e.hash == k.hash w then
            let before ← dictEpoch d (keyPart v)
            let same ← eqBool e.key v
            if (← dictEpoch d (keyPart v)) != before then unsupported "dict.changed-during-lookup"
            if same then
              if hit.isSome then unsupported "dict.find:order-among-keys-of-one-hash"
              rule "dict.find.hit"
              if stored.length < 2 then return some i
              hit := some i
            else
              rule "dict.find.same-hash-other-key"
              if tells && !(0 ≤ k.hash w && k.hash w < 32) then unsupported "dict.find:asked-again-or-not-hangs-on-the-table"
      return hit : Sem (Option Nat)) Q E s := by
    dsimp only
    have quiet : ∀ {P : Bool → Shared → Prop}, P false s → wpAny (model prog w) A (tableMayTell v ((placesWithHash es.size (fun i => es[i]?.map (·.hash)) (k.hash w)).filterMap fun i => es[i]?.map (·.key))) P E s := fun {P} hP => by
      unfold tableMayTell
      split
      · exact wpAny_pure hP
      · refine wpAny_bind (quiet_key k v 8 s hv (by omega) A E _ ?_)
        rw [if_neg (by simp)]
        refine wpAny_bind ?_
        refine wpAny_forIn_list _ (fun rest r s' => s' = s ∧ r = (none, ()) ∧ ∀ u ∈ rest, ∃ x ∈ xs, u = x.2.1) _ ?_ ?_ _ _ ⟨rfl, rfl, memS⟩
        · rintro x rest r s' ⟨rfl, rfl, hr⟩
          obtain ⟨y, hy, rfl⟩ := hr x List.mem_cons_self
          refine wpAny_bind (quiet_key y.1 _ 8 s' (his y hy).1 (by have := (his y hy).2; omega) A E _ ?_)
          rw [if_neg (by simp)]
          exact wpAny_pure ⟨rfl, rfl, fun u hu' => hr u (List.mem_cons_of_mem _ hu')⟩
        · rintro r s' ⟨rfl, rfl, _⟩
          exact wpAny_pure hP
    by_cases hone : (((placesWithHash es.size (fun i => es[i]?.map (·.hash)) (k.hash w)).filterMap fun i => es[i]?.map (·.key)) == [v]) = true <;> (first | rw [if_pos hone] | rw [if_neg hone]) <;> (first | refine wpAny_bind (wpAny_pure ?_) | refine wpAny_bind (quiet ?_)) <;> (
    rw [if_neg (by simp)]
    refine wpAny_bind ?_
    refine wpAny_forIn_list _ (fun rest b s' => s' = s ∧ ∃ i hit, b = (none, hit) ∧ Upto w es xs k rest i ∧ ((hit = none ∧ ∀ j y, j < i → xs[j]? = some y → y.1 ≠ k) ∨ ∃ j y, hit = some j ∧ j < i ∧ xs[j]? = some y ∧ y.1 = k)) _ ?_ ?_ _ _
      ⟨rfl, 0, none, rfl, Upto.begin_, .inl ⟨rfl, fun _ _ z => absurd z (Nat.not_lt_zero _)⟩⟩
    · rintro x rest b s' ⟨rfl, i, hit, rfl, u, st⟩
      obtain ⟨hix, ⟨y, ey, ee⟩, u', no'⟩ := u.step he
      obtain ⟨hy, hyd⟩ := his y (List.mem_of_getElem? ey)
      have st1 : (hit = none ∧ ∀ j z, j < x → xs[j]? = some z → z.1 ≠ k) ∨ ∃ j z, hit = some j ∧ j < x ∧ xs[j]? = some z ∧ z.1 = k := by
        rcases st with ⟨e0, no⟩ | ⟨j, z, e0, hj, ez, zk⟩
        · refine .inl ⟨e0, fun j z hj ez => ?_⟩
          by_cases q : j < i
          · exact no j z q ez
          · exact no' j z (by omega) hj ez
        · exact .inr ⟨j, z, e0, by omega, ez, zk⟩
      have other : y.1 ≠ k → ((hit = none ∧ ∀ j z, j < x + 1 → xs[j]? = some z → z.1 ≠ k) ∨ ∃ j z, hit = some j ∧ j < x + 1 ∧ xs[j]? = some z ∧ z.1 = k) := fun yk => by
        rcases st1 with ⟨e0, no⟩ | ⟨j, z, e0, hj, ez, zk⟩
        · refine .inl ⟨e0, fun j z hj ez => ?_⟩
          by_cases q : j < x
          · exact no j z q ez
          · have : j = x := by omega
            subst this; rw [ey] at ez; cases ez; exact yk
        · exact .inr ⟨j, z, e0, by omega, ez, zk⟩
      rw [ee]
      dsimp only
      by_cases hh : (y.1.hash w == k.hash w) = true
      · rw [if_pos hh]
        refine wpAny_bind (wpAny_dictEpoch ho hd (wpAny_bind (eqB_key hu hy hyd hv (wpAny_bind (wpAny_dictEpoch ho hd ?_)))))
        rw [if_neg (show ¬ (ep != ep) = true by simp)]
        by_cases yk : y.1 = k
        · rw [decide_eq_true yk]
          rcases st1 with ⟨rfl, _⟩ | ⟨j, z, _, hj, ez, zk⟩
          · simp only [Option.isSome_none, Bool.false_eq_true, if_false, if_true]
            refine wpAny_bind (wpAny_rule ?_)
            split
            · refine wpAny_pure (wpAny_pure ?_)
              rw [ix_some hn ey yk] at h
              exact h
            · exact wpAny_pure ⟨rfl, x + 1, some x, rfl, u', .inr ⟨x, y, rfl, Nat.lt_succ_self x, ey, yk⟩⟩
          · exfalso
            have a1 := ix_some hn ey yk
            rw [ix_some hn ez zk] at a1
            have := Option.some.inj a1
            omega
        · rw [decide_eq_false yk]
          simp only [Bool.false_eq_true, if_false]
          refine wpAny_bind (wpAny_rule ?_)
          first
            | exact wpAny_pure ⟨rfl, x + 1, hit, rfl, u', other yk⟩
            | exact wpAny_bind (wpAny_pure (wpAny_pure ⟨rfl, x + 1, hit, rfl, u', other yk⟩))
            | (rw [if_neg (by simp)]; exact wpAny_pure ⟨rfl, x + 1, hit, rfl, u', other yk⟩)
      · rw [if_neg hh]
        refine wpAny_pure ⟨rfl, x + 1, hit, rfl, u', other ?_⟩
        intro yk; rw [yk] at hh; simp at hh
    · rintro b s' ⟨rfl, i, hit, rfl, u, st⟩
      rcases st with ⟨rfl, no⟩ | ⟨j, y, rfl, hj, ey, yk⟩
      · rw [ix_none fun j y ey => by
          by_cases q : j < i
          · exact no j y q ey
          · exact u.stop he j y (by omega) ey] at h
        exact wpAny_pure h
      · rw [ix_some hn ey yk] at h
        exact wpAny_pure h)
  unfold dictFind
  try with_reducible refine wpAny_holding ?_
  refine wpAny_bind (wpAny_dictEntries ho hd ?_)
  dsimp only
  cases hv with
  | none =>
    dsimp only
    by_cases hall : (((Value.none) :: (placesWithHash es.size (fun i => es[i]?.map (·.hash)) (NestedKey.hash w (.none))).filterMap fun i => es[i]?.map (·.key)).all carriedByValue) = true
    · rw [if_pos hall]; exact plain
    · rw [if_neg hall]; exact rest_
  | bool _ =>
    rename_i b i eb
    dsimp only
    by_cases hall : (((Value.bool b) :: (placesWithHash es.size (fun i => es[i]?.map (·.hash)) (NestedKey.hash w (.num i))).filterMap fun i => es[i]?.map (·.key)).all carriedByValue) = true
    · rw [if_pos hall]; exact plain
    · rw [if_neg hall]; exact rest_
  | int i t =>
    dsimp only
    by_cases hall : (((Value.int i t) :: (placesWithHash es.size (fun i => es[i]?.map (·.hash)) (NestedKey.hash w (.num i))).filterMap fun i => es[i]?.map (·.key)).all carriedByValue) = true
    · rw [if_pos hall]; exact plain
    · rw [if_neg hall]; exact rest_
  | text y t =>
    dsimp only
    by_cases hs : (es.all fun e => isExactStrKey e.key) = true
    · rw [if_pos hs]
      have hfun : (es.findIdx? fun e : DictEntry => e.key.isStr y) = ixOf xs (.text y) := by
        have q : ∀ l : List Ent, (∀ x ∈ l, NestedIs s.heap x.1 x.2.1 ∧ x.1.depth ≤ 7) → (l.map (entG w)).findIdx? (fun e : DictEntry => e.key.isStr y) = ixOf l (.text y) := by
          intro l
          induction l with
          | nil => intro _; rfl
          | cons x l ih =>
            intro hl
            rw [List.map_cons, ixOf, List.findIdx?_cons, List.findIdx?_cons]
            have e1 : (entG w x).key.isStr y = decide (x.1 = .text y) := str_key y (hl x List.mem_cons_self).1
            rw [e1, ih fun z hz => hl z (List.mem_cons_of_mem _ hz)]
        rw [← q xs his, ← he]
        exact arr_find es _
      unfold foundByValue
      rw [hfun]
      cases hf : ixOf xs (.text y) with
      | none =>
        rw [hf] at h
        exact wpAny_pure h
      | some i =>
        obtain ⟨hi, hp, _⟩ := List.findIdx?_eq_some_iff_getElem.mp hf
        have yk : xs[i].1 = .text y := of_decide_eq_true hp
        obtain ⟨hy, hyd⟩ := his xs[i] (List.getElem_mem hi)
        have ee : es[i]? = some (entG w xs[i]) := by rw [es_at he, List.getElem?_eq_getElem hi]; rfl
        simp only [ee]
        refine wpAny_bind (wpAny_dictEpoch ho hd (wpAny_bind (eqB_key hu hy hyd (NestedIs.text y t) (wpAny_bind (wpAny_dictEpoch ho hd ?_)))))
        rw [if_neg (show ¬ (ep != ep) = true by simp), decide_eq_true yk]
        rw [hf] at h
        exact wpAny_bind (wpAny_rule (wpAny_pure h))
    · rw [if_neg hs]
      by_cases hall : (((Value.str y t) :: (placesWithHash es.size (fun i => es[i]?.map (·.hash)) (NestedKey.hash w (.text y))).filterMap fun i => es[i]?.map (·.key)).all carriedByValue) = true
      · rw [if_pos hall]; exact plain
      · rw [if_neg hall]; exact rest_
  | tup h1 h2 h3 h4 =>
    rename_i a o' vs n ks
    dsimp only
    by_cases hall : (((Value.ref a) :: (placesWithHash es.size (fun i => es[i]?.map (·.hash)) (NestedKey.hash w (.tup ks))).filterMap fun i => es[i]?.map (·.key)).all carriedByValue) = true
    · rw [if_pos hall]; exact plain
    · rw [if_neg hall]
      have hany : ¬ (es.any fun e => e.key == Value.ref a && e.hash != NestedKey.hash w (.tup ks)) = true := by
        rw [← Array.any_toList, List.any_eq_true]
        rintro ⟨e, hin, hc⟩
        obtain ⟨x, hx, rfl⟩ := memE e (Array.mem_toList_iff.mp hin)
        simp only [entG, Bool.and_eq_true, beq_iff_eq, bne_iff_ne, ne_eq] at hc
        have z := (his x hx).1
        rw [hc.1] at z
        exact hc.2 (by rw [NestedIs.inj _ _ _ z (NestedIs.tup h1 h2 h3 h4)])
      rw [if_neg hany]
      exact rest_
end
end DL
/-! D8: dicts as data. -/
namespace DL
open PySem PySem.Spec PyProof.Rows L2

/-! ### equality of data (for tables) -/
noncomputable instance decD : DecidableEq D := fun a b => Classical.propDecidable (a = b)
noncomputable def dlook (kvs : List (D × D)) (k : D) : Option D := (kvs.find? fun p => decide (p.1 = k)).map (·.2)
noncomputable def dput (kvs : List (D × D)) (k v : D) : List (D × D) :=
  if (dlook kvs k).isSome = true then kvs.map (fun p => if p.1 = k then (p.1, v) else p) else kvs ++ [(k, v)]
theorem dlook_nil (k : D) : dlook [] k = none := rfl
theorem dlook_cons (p : D × D) (r : List (D × D)) (k : D) : dlook (p :: r) k = if p.1 = k then some p.2 else dlook r k := by
  unfold dlook
  rw [List.find?_cons]
  by_cases e : p.1 = k
  · rw [if_pos e, decide_eq_true e]; rfl
  · rw [if_neg e, decide_eq_false e]
theorem dput_length (kvs : List (D × D)) (k v : D) : (dput kvs k v).length ≤ kvs.length + 1 := by
  unfold dput
  split
  · rw [List.length_map]; omega
  · rw [List.length_append]; simp
theorem dput_new {kvs : List (D × D)} {k v : D} (h : dlook kvs k = none) : dput kvs k v = kvs ++ [(k, v)] := by
  unfold dput
  rw [h]
  exact if_neg (by decide)
theorem dlook_append (a b : List (D × D)) (k : D) : dlook (a ++ b) k = (dlook a k).or (dlook b k) := by
  induction a with
  | nil => rfl
  | cons p r ih =>
    rw [List.cons_append, dlook_cons, dlook_cons]
    by_cases e : p.1 = k
    · rw [if_pos e, if_pos e]; rfl
    · rw [if_neg e, if_neg e]; exact ih
theorem dlook_map (k j v : D) : ∀ kvs : List (D × D), dlook (kvs.map fun p => if p.1 = k then (p.1, v) else p) j = if j = k then (dlook kvs j).map (fun _ => v) else dlook kvs j
  | [] => by simp [dlook]
  | p :: r => by
    rw [List.map_cons, dlook_cons, dlook_cons, dlook_map k j v r]
    by_cases e : p.1 = k
    · rw [if_pos e]
      by_cases q : p.1 = j
      · rw [if_pos q, if_pos q, if_pos (q.symm.trans e)]; rfl
      · rw [if_neg q, if_neg q]
    · rw [if_neg e]
      by_cases q : p.1 = j
      · rw [if_pos q, if_pos q, if_neg (fun z => e (q.trans z))]
      · rw [if_neg q, if_neg q]
theorem dlook_dput (kvs : List (D × D)) (k v j : D) : dlook (dput kvs k v) j = if j = k then some v else dlook kvs j := by
  unfold dput
  by_cases h : (dlook kvs k).isSome = true
  · rw [if_pos h, dlook_map]
    by_cases e : j = k
    · rw [if_pos e, if_pos e, e]
      obtain ⟨x, hx⟩ := Option.isSome_iff_exists.mp h
      rw [hx]; rfl
    · rw [if_neg e, if_neg e]
  · rw [if_neg h, dlook_append]
    have hn : dlook kvs k = none := by
      cases q : dlook kvs k with
      | none => rfl
      | some x => rw [q] at h; exact absurd rfl h
    rw [dlook_cons, dlook_nil]
    by_cases e : j = k
    · subst e; rw [hn, if_pos rfl]; rfl
    · rw [if_neg e, if_neg (fun z => e z.symm)]
      cases dlook kvs j <;> rfl

mutual
theorem keyOf_inj : ∀ (a b : D) (k : NestedKey), keyOf a = some k → keyOf b = some k → a = b
  | .non, b, k, h1, h2 => by
    cases h1
    cases b <;> first
      | rfl
      | (simp [keyOf] at h2; done)
      | (simp only [keyOf, Option.map_eq_some_iff] at h2; obtain ⟨_, _, q⟩ := h2; cases q)
  | .int i, b, k, h1, h2 => by
    cases h1
    cases b <;> first
      | (simp [keyOf] at h2; done)
      | (simp only [keyOf, Option.map_eq_some_iff] at h2; obtain ⟨_, _, q⟩ := h2; cases q)
      | (simp only [keyOf, Option.some.injEq, NestedKey.num.injEq] at h2; rw [h2])
  | .str i, b, k, h1, h2 => by
    cases h1
    cases b <;> first
      | (simp [keyOf] at h2; done)
      | (simp only [keyOf, Option.map_eq_some_iff] at h2; obtain ⟨_, _, q⟩ := h2; cases q)
      | (simp only [keyOf, Option.some.injEq, NestedKey.text.injEq] at h2; rw [h2])
  | .tup ds, b, k, h1, h2 => by
    simp only [keyOf, Option.map_eq_some_iff] at h1
    obtain ⟨ks, e1, rfl⟩ := h1
    cases b <;> first
      | (simp [keyOf] at h2; done)
      | skip
    simp only [keyOf, Option.map_eq_some_iff, NestedKey.tup.injEq] at h2
    obtain ⟨ks2, e2, rfl⟩ := h2
    rw [keysOf_inj ds _ _ e1 e2]
  | .bl _, _, _, h1, _ => by simp [keyOf] at h1
  | .ref _, _, _, h1, _ => by simp [keyOf] at h1
  | .rol _, _, _, h1, _ => by simp [keyOf] at h1
  | .ty _, _, _, h1, _ => by simp [keyOf] at h1
  | .rng _ _, _, _, h1, _ => by simp [keyOf] at h1
  | .rod _ _, _, _, h1, _ => by simp [keyOf] at h1
  | .obj _ _ _, _, _, h1, _ => by simp [keyOf] at h1
theorem keysOf_inj : ∀ (a b : List D) (k : List NestedKey), keysOf a = some k → keysOf b = some k → a = b
  | [], [], _, _, _ => rfl
  | [], b :: bs, k, h1, h2 => by
    cases h1
    simp only [keysOf, Option.bind_eq_some_iff, Option.map_eq_some_iff] at h2
    obtain ⟨_, _, _, _, q⟩ := h2
    cases q
  | a :: as, [], k, h1, h2 => by
    cases h2
    simp only [keysOf, Option.bind_eq_some_iff, Option.map_eq_some_iff] at h1
    obtain ⟨_, _, _, _, q⟩ := h1
    cases q
  | a :: as, b :: bs, k, h1, h2 => by
    simp only [keysOf, Option.bind_eq_some_iff, Option.map_eq_some_iff] at h1 h2
    obtain ⟨x, ex, xs, exs, rfl⟩ := h1
    obtain ⟨y, ey, ys, eys, q⟩ := h2
    injection q with q1 q2
    subst q1 q2
    rw [keyOf_inj a b _ ex ey, keysOf_inj as bs _ exs eys]
end

section
variable {X : Cx} {pins : List (Addr × Obj)} {σ : L2.St} {H : Hp} {s : Shared}
mutual
/-- data that is a key, in the machine's heap -/
theorem key_is (I : Inv X pins σ H s) : ∀ (d : D) (k : NestedKey) (v : V) (u : Value), keyOf d = some k → RD X.K X.w H d v → RelV v u → NestedIs s.heap k u
  | .non, _, _, _, e, r, q => by cases e; cases r; cases q; exact .none
  | .int i, _, _, _, e, r, q => by cases e; cases r; obtain ⟨t, rfl⟩ := q; exact .int i t
  | .str x, _, _, _, e, r, q => by cases e; cases r; obtain ⟨t, rfl⟩ := q; exact .text x t
  | .tup ds, _, _, _, e, ⟨a, vs, ev, st, rs⟩, q => by
    simp only [keyOf, Option.map_eq_some_iff] at e
    obtain ⟨ks, e1, rfl⟩ := e
    subst ev
    cases q
    obtain ⟨its, rv, ⟨o, ho, hc, n, hd⟩, _⟩ := I.tuple st
    exact .tup ho hc hd (by simpa using keys_is I ds ks vs its e1 rs rv)
  | .bl _, _, _, _, e, _, _ => by simp [keyOf] at e
  | .ref _, _, _, _, e, _, _ => by simp [keyOf] at e
  | .rol _, _, _, _, e, _, _ => by simp [keyOf] at e
  | .ty _, _, _, _, e, _, _ => by simp [keyOf] at e
  | .rng _ _, _, _, _, e, _, _ => by simp [keyOf] at e
  | .rod _ _, _, _, _, e, _, _ => by simp [keyOf] at e
  | .obj _ _ _, _, _, _, e, _, _ => by simp [keyOf] at e
theorem keys_is (I : Inv X pins σ H s) : ∀ (ds : List D) (ks : List NestedKey) (vs : List V) (us : List Value), keysOf ds = some ks → RDs X.K X.w H ds vs → Vals vs us → NestedAll s.heap ks us
  | [], _, _, _, e, r, q => by cases e; rw [RDs.nil_ r] at q; cases q; exact .nil
  | d :: ds, _, _, _, e, ⟨v, r, ev, h1, h2⟩, q => by
    simp only [keysOf, Option.bind_eq_some_iff, Option.map_eq_some_iff] at e
    obtain ⟨x, ex, xs, exs, rfl⟩ := e
    subst ev
    cases q with
    | cons q1 q2 => exact .cons (key_is I d x v _ ex h1 q1) (keys_is I ds xs r _ exs h2 q2)
end
end

/-! ### tables of both kinds -/
section
variable {K : PySem.W.Frag} {w : World} {H : Hp} {kvs : List (D × D)} {xs : List Ent} {k : NestedKey} {d : D}
theorem REnts.key_iff {p : D × D} {x : Ent} (r : REnt K w H p x) (hk : keyOf d = some k) : p.1 = d ↔ x.1 = k := by
  constructor
  · intro e
    have h1 := r.key
    rw [e, hk] at h1
    exact (Option.some.inj h1).symm
  · intro e
    exact keyOf_inj _ _ k (by rw [← e]; exact r.key) hk
/-- what is found -/
theorem REnts.find (r : REnts K w H kvs xs) (hk : keyOf d = some k) : (dlook kvs d = none ∧ ixOf xs k = none) ∨
    ∃ i x dv, ixOf xs k = some i ∧ xs[i]? = some x ∧ dlook kvs d = some dv ∧ ∃ v, RelV v x.2.2 ∧ RD K w H dv v := by
  induction r with
  | nil => exact .inl ⟨rfl, rfl⟩
  | @cons p x ps ys h t ih =>
    rw [dlook_cons]
    by_cases e : p.1 = d
    · have e' : x.1 = k := (REnts.key_iff h hk).mp e
      obtain ⟨v, h1, h2⟩ := h.vv
      refine .inr ⟨0, x, p.2, ?_, rfl, if_pos e, v, h1, h2⟩
      rw [ixOf, List.findIdx?_cons, decide_eq_true e']
      rfl
    · have e' : ¬ x.1 = k := fun z => e ((REnts.key_iff h hk).mpr z)
      rw [if_neg e, ixOf, List.findIdx?_cons, decide_eq_false e']
      rcases ih with ⟨h1, h2⟩ | ⟨i, y, dv, h1, h2, h3, h4⟩
      · refine .inl ⟨h1, ?_⟩
        show Option.map (· + 1) (ixOf ys k) = none
        rw [h2]; rfl
      · refine .inr ⟨i + 1, y, dv, ?_, by simpa using h2, h3, h4⟩
        show Option.map (· + 1) (ixOf ys k) = some (i + 1)
        rw [h1]; rfl
/-- the table behind a store -/
def setE (xs : List Ent) (k : NestedKey) (u v : Value) : List Ent := match ixOf xs k with
  | some i => xs.modify i fun x => (x.1, x.2.1, v)
  | none => xs ++ [(k, u, v)]
theorem setE_keys {u v : Value} (hn : (xs.map (·.1)).Nodup) : ((setE xs k u v).map (·.1)).Nodup := by
  unfold setE
  cases q : ixOf xs k with
  | some i =>
    have e : (xs.modify i fun x => (x.1, x.2.1, v)).map (·.1) = xs.map (·.1) := by
      refine List.ext_getElem? fun j => ?_
      rw [List.getElem?_map, List.getElem?_map, List.getElem?_modify]
      cases xs[j]? with
      | none => rfl
      | some x => by_cases z : i = j <;> simp [z]
    simp only [e]; exact hn
  | none =>
    rw [List.map_append, List.nodup_append]
    refine ⟨hn, by simp, fun x hx y hy => ?_⟩
    simp only [List.map_cons, List.map_nil, List.mem_singleton] at hy
    subst hy
    rintro rfl
    obtain ⟨e, he, rfl⟩ := List.mem_map.mp hx
    have := List.findIdx?_eq_none_iff.mp q e he
    simp at this
theorem REnts.put (r : REnts K w H kvs xs) (hn : (xs.map (·.1)).Nodup) (hk : keyOf d = some k) (dk : k.depth ≤ 7) {ku kv : Value} {vk vv : V} {dv : D} (r1 : RelV vk ku) (r2 : RD K w H d vk) (r3 : RelV vv kv) (r4 : RD K w H dv vv) :
    REnts K w H (dput kvs d dv) (setE xs k ku kv) := by
  unfold dput setE
  rcases r.find hk with ⟨h1, h2⟩ | ⟨i, x, dw, h1, h2, h3, h4⟩
  · rw [h1, h2]
    rw [if_neg (by decide)]
    exact Paired.snoc r ⟨hk, dk, ⟨vk, r1, r2⟩, ⟨vv, r3, r4⟩⟩
  · rw [h3, h1]
    rw [if_pos (show (some dw).isSome = true from rfl)]
    show REnts K w H (kvs.map fun p => if p.1 = d then (p.1, dv) else p) (xs.modify i fun x => (x.1, x.2.1, kv))
    have hi : ∀ (j : Nat) (y : Ent), xs[j]? = some y → (y.1 = k ↔ j = i) := fun j y ey => by
      constructor
      · intro e
        have := ix_some hn ey e
        rw [h1] at this
        exact (Option.some.inj this).symm
      · rintro rfl
        obtain ⟨q1, q2, _⟩ := List.findIdx?_eq_some_iff_getElem.mp h1
        rw [List.getElem?_eq_getElem q1] at ey
        cases ey
        exact of_decide_eq_true q2
    clear h1 h2 h3 h4
    have gen : ∀ {ps : List (D × D)} {ys : List Ent} (i : Nat), REnts K w H ps ys → (∀ (j : Nat) (y : Ent), ys[j]? = some y → (y.1 = k ↔ j = i)) → REnts K w H (ps.map fun p => if p.1 = d then (p.1, dv) else p) (ys.modify i fun x => (x.1, x.2.1, kv)) := by
      intro ps ys i t
      induction t generalizing i with
      | nil => intro _; rw [List.modify_nil]; exact .nil
      | @cons p x ps ys h t ih =>
        intro hj
        rw [List.map_cons]
        cases i with
        | zero =>
          have e : x.1 = k := (hj 0 x rfl).mpr rfl
          rw [List.modify_zero_cons, if_pos ((REnts.key_iff h hk).mpr e)]
          refine .cons ⟨h.key, h.deep, h.kv, ⟨vv, r3, r4⟩⟩ ?_
          have same : ps.map (fun p => if p.1 = d then (p.1, dv) else p) = ps := by
            have all : ∀ {qs : List (D × D)} {zs : List Ent} (n : Nat), REnts K w H qs zs → (∀ (j : Nat) (y : Ent), zs[j]? = some y → ¬ y.1 = k) → qs.map (fun p => if p.1 = d then (p.1, dv) else p) = qs := by
              intro qs zs n t2
              induction t2 with
              | nil => intro _; rfl
              | @cons p2 x2 ps2 ys2 h2 t2 ih2 =>
                intro hz
                have ne : ¬ p2.1 = d := fun z => hz 0 x2 rfl ((REnts.key_iff h2 hk).mp z)
                rw [List.map_cons, if_neg ne, ih2 fun j y ey => hz (j + 1) y (by simpa using ey)]
            exact all 0 t fun j y ey z => by
              have := (hj (j + 1) y (by simpa using ey)).mp z
              omega
          rw [same]
          exact t
        | succ i =>
          have ne : ¬ p.1 = d := fun z => by
            have := (hj 0 x rfl).mp ((REnts.key_iff h hk).mp z)
            omega
          rw [List.modify_succ_cons, if_neg ne]
          exact .cons h (ih i fun j y ey => by
            have := hj (j + 1) y (by simpa using ey)
            rw [this]
            omega)
    exact gen i r hi
end

/-! ### the machine's operations -/
section
variable {prog : Program} {w : World} {A : Around} {E : Value → Shared → Prop} {s : Shared} {d : Addr} {xs : List Ent} {k : NestedKey} {v : Value}
/-- the dict, its keys keys -/
structure DictG (w : World) (h : Heap) (d : Addr) (xs : List Ent) : Prop where
  ob : isDict w d xs h
  keys : KeysIn h xs
  nd : (xs.map (·.1)).Nodup
theorem DictG.ty (m : DictG w s.heap d xs) : s.TypeIs (.ref d) "dict" := let ⟨o, _, _, ho, hc, _⟩ := m.ob; ⟨o, ho, hc.1⟩
theorem get_g {Q : Option Value → Shared → Prop} (hu : A.units + 8 < cLine) (hv : NestedIs s.heap k v) (hk : k.depth ≤ 7) (m : DictG w s.heap d xs)
    (h : Q ((ixOf xs k).bind fun i => (xs[i]?).map (·.2.2)) { s with toks := s.toks + k.draws }) : wpAny (model prog w) A (dictGet d v) Q E s := by
  obtain ⟨⟨o, es, ep, ho, hc, hd, he⟩, his, hn⟩ := m
  unfold dictGet
  try with_reducible refine wpAny_holding ?_
  refine wpAny_bind (pyHash_key k v A s _ hv (by omega) (wpAny_bind (find_g (s := { s with toks := s.toks + k.draws }) hu hv hk ho hd he his hn ?_)))
  cases q : ixOf xs k with
  | none => rw [q] at h; exact wpAny_pure h
  | some i =>
    rw [q] at h
    refine wpAny_bind (wpAny_dictEntries (s := { s with toks := s.toks + k.draws }) ho hd ?_)
    rw [es_at he]
    have e2 : Option.map (fun x => x.val) (Option.map (entG w) xs[i]?) = (xs[i]?).map (·.2.2) := by
      cases xs[i]? <;> rfl
    rw [e2]
    exact wpAny_pure h
theorem set_g {u : Value} {Q : Unit → Shared → Prop} (hu : A.units + 8 < cLine) (hv : NestedIs s.heap k v) (hk : k.depth ≤ 7) (m : DictG w s.heap d xs) (hz : xs.length ≤ sizeLine)
    (h : ∀ h', isDict w d (setE xs k v u) h' → Heap.SameBut d s.heap h' → Q () { s with heap := h', toks := s.toks + k.draws }) : wpAny (model prog w) A (dictSet d v u) Q E s := by
  obtain ⟨⟨o, es, ep, ho, hc, hd, he⟩, his, hn⟩ := m
  have hs := es_size he
  unfold dictSet
  try with_reducible refine wpAny_holding ?_
  refine wpAny_bind (pyHash_key k v A s _ hv (by omega) ?_)
  unfold dictSetHashed
  try with_reducible refine wpAny_holding ?_
  refine wpAny_bind (find_g (s := { s with toks := s.toks + k.draws }) hu hv hk ho hd he his hn ?_)
  cases q : ixOf xs k with
  | none =>
    refine wpAny_bind (wpAny_rule (wpAny_updateDictKeys (hz := by omega) (s := { s with toks := s.toks + k.draws }) ho hd (h _ ⟨_, _, ep + 1, Heap.get?_update_self _ ho (Obj.isFreed_of_dict (Obj.data_mapDictKeys hd _)), hc.mapDictKeys _, Obj.data_mapDictKeys hd _, ?_⟩ (Heap.SameBut.update ..))))
    unfold setE
    rw [q]
    simp [he]
  | some i =>
    refine wpAny_bind (wpAny_rule (wpAny_bind (wpAny_updateDict (s := { s with toks := s.toks + k.draws }) ho hd (wpAny_point (h _ ⟨_, _, ep, Heap.get?_update_self _ ho (Obj.isFreed_of_dict (Obj.data_mapDict hd _)), hc.mapDict _, Obj.data_mapDict hd _, ?_⟩ (Heap.SameBut.update ..))))))
    unfold setE
    rw [q]
    rw [Array.toList_modify, he]
    refine List.ext_getElem? fun j => ?_
    rw [List.getElem?_modify, List.getElem?_map, List.getElem?_map, List.getElem?_modify]
    cases xs[j]? with
    | none => rfl
    | some x => by_cases z : i = j <;> simp [z]
theorem contains_g {Q : Bool → Shared → Prop} (hu : A.units + 9 < cLine) (hv : NestedIs s.heap k v) (hk : k.depth ≤ 7) (hS : (d == sysModules) = false) (m : DictG w s.heap d xs)
    (h : Q (ixOf xs k).isSome { s with toks := s.toks + k.draws }) : wpAny (model prog w) A (contains (.ref d) v) Q E s := by
  refine wpAny_contains_slot m.ty PySem.F.slot_dict_contains (call_meetsIn PySem.F.slot_dict_contains m.ty PySem.F.entry_dict_contains (PySem.F.args_dict_contains_2 _ _)
    (S := fun A' R s' => A' = A ∧ s' = s ∧ R (.ok (.ret (.bool (ixOf xs k).isSome))) { s with toks := s.toks + k.draws }) (fun A' R s' z => ?_) ⟨rfl, rfl, wpAny_truthy_bool h⟩)
  obtain ⟨rfl, rfl, z⟩ := z
  show wpAny _ _ (dictGet d v >>= _) _ _ _
  refine wpAny_bind (get_g (by rw [Around.in1_units]; omega) hv hk m ?_)
  cases q : ixOf xs k with
  | none =>
    rw [q] at z
    exact wpAny_bind (wpAny_pendingKey_other hS (wpAny_pure z))
  | some i =>
    rw [q] at z
    obtain ⟨hi, _⟩ := List.findIdx?_eq_some_iff_getElem.mp q
    have e3 : ((some i).bind fun i => (xs[i]?).map (·.2.2)) = some xs[i].2.2 := by
      show (xs[i]?).map _ = _
      rw [List.getElem?_eq_getElem hi]; rfl
    rw [e3]
    exact wpAny_pure z
theorem getItem_g {u : Value} {Q : Value → Shared → Prop} (hu : A.units + 9 < cLine) (hv : NestedIs s.heap k v) (hk : k.depth ≤ 7) (m : DictG w s.heap d xs) {i : Nat} {x : Ent} (e1 : ixOf xs k = some i) (e2 : xs[i]? = some x)
    (h : Q x.2.2 { s with toks := s.toks + k.draws }) : wpAny (model prog w) A (getItem (.ref d) v) Q E s := by
  unfold getItem
  try with_reducible refine wpAny_holding ?_
  refine wpAny_bind (wpAny_sequenceKey m.ty (by decide) ?_)
  refine wpAny_bind (wpAny_callSpecial?_slot (name := Str.ofString "__getitem__") m.ty slot_dict_getitem (wpAny_call_entry slot_dict_getitem m.ty entry_dict_getitem ?_ (args_dict_getitem _ _)))
  show wpAny _ _ (dictGet d v >>= _) _ _ s
  refine wpAny_bind (get_g (by rw [Around.in1_units]; omega) hv hk m ?_)
  have e3 : ((ixOf xs k).bind fun i => (xs[i]?).map (·.2.2)) = some x.2.2 := by
    rw [e1]
    show (xs[i]?).map _ = _
    rw [e2]; rfl
  rw [e3]
  exact wpAny_pure ⟨x.2.2, rfl, wpAny_pure h⟩
theorem setItem_g {u : Value} {Q : Unit → Shared → Prop} (hu : A.units + 9 < cLine) (hv : NestedIs s.heap k v) (hk : k.depth ≤ 7) (m : DictG w s.heap d xs) (hz : xs.length ≤ sizeLine)
    (h : ∀ h', isDict w d (setE xs k v u) h' → Heap.SameBut d s.heap h' → Q () { s with heap := h', toks := s.toks + k.draws }) : wpAny (model prog w) A (setItem (.ref d) v u) Q E s := by
  unfold setItem
  try with_reducible refine wpAny_holding ?_
  refine wpAny_bind (wpAny_sequenceKey m.ty (by decide) ?_)
  refine wpAny_bind (wpAny_callSpecial?_slot (name := Str.ofString "__setitem__") m.ty slot_dict_setitem (wpAny_call_entry slot_dict_setitem m.ty entry_dict_setitem ?_ (args_dict_setitem _ _ _)))
  show wpAny _ _ (Builtin.Dict.notOrdered "__setitem__" ⟨[.ref d, v, u], []⟩ >>= _) _ _ s
  refine wpAny_bind (wpAny_notOrdered_dict m.ty ?_)
  show wpAny _ _ (dictSet d v u >>= _) _ _ s
  exact wpAny_bind (set_g (by rw [Around.in1_units]; omega) hv hk m hz fun h' a b => wpAny_pure ⟨.none, rfl, wpAny_pure (h h' a b)⟩)
/-- d.get(k), d.get(k, x) -/
theorem dget_g {more : List Value} {dflt : Value} {Q : Value → Shared → Prop} (hm : (more = [] ∧ dflt = .none) ∨ more = [dflt]) (hu : A.units + 9 < cLine) (hv : NestedIs s.heap k v) (hk : k.depth ≤ 7) (hS : (d == sysModules) = false) (m : DictG w s.heap d xs)
    (h : Q (((ixOf xs k).bind fun i => (xs[i]?).map (·.2.2)).getD dflt) { s with toks := s.toks + k.draws }) : wpAny (model prog w) A (call (.builtin "dict.get") (.ref d :: v :: more)) Q E s := by
  rcases hm with ⟨rfl, rfl⟩ | rfl
  · refine call_meetsIn PySem.F.slot_dict_get m.ty PySem.F.entry_dict_get (PySem.F.args_dict_get_2 _ _)
      (S := fun A' R s' => A' = A ∧ s' = s ∧ R (.ok (.ret (((ixOf xs k).bind fun i => (xs[i]?).map (·.2.2)).getD .none))) { s with toks := s.toks + k.draws }) (fun A' R s' z => ?_) ⟨rfl, rfl, h⟩
    obtain ⟨rfl, rfl, z⟩ := z
    show wpAny _ _ (dictGet d v >>= _) _ _ _
    refine wpAny_bind (get_g (by rw [Around.in1_units]; omega) hv hk m ?_)
    cases q : (ixOf xs k).bind fun i => (xs[i]?).map (·.2.2) with
    | some y => rw [q] at z; exact wpAny_pure z
    | none =>
      rw [q] at z
      show wpAny _ _ (Builtin.Dict.missed d v >>= _) _ _ _
      exact wpAny_bind (wpAny_missed_other hS (wpAny_pure z))
  · refine call_meetsIn PySem.F.slot_dict_get m.ty PySem.F.entry_dict_get (PySem.F.args_dict_get_3 _ _ _)
      (S := fun A' R s' => A' = A ∧ s' = s ∧ R (.ok (.ret (((ixOf xs k).bind fun i => (xs[i]?).map (·.2.2)).getD dflt))) { s with toks := s.toks + k.draws }) (fun A' R s' z => ?_) ⟨rfl, rfl, h⟩
    obtain ⟨rfl, rfl, z⟩ := z
    show wpAny _ _ (dictGet d v >>= _) _ _ _
    refine wpAny_bind (get_g (by rw [Around.in1_units]; omega) hv hk m ?_)
    cases q : (ixOf xs k).bind fun i => (xs[i]?).map (·.2.2) with
    | some y => rw [q] at z; exact wpAny_pure z
    | none =>
      rw [q] at z
      show wpAny _ _ (Builtin.Dict.missed d v >>= _) _ _ _
      exact wpAny_bind (wpAny_missed_other hS (wpAny_pure z))
end
end DL
/-! D9: the data rules of dicts. -/
namespace DL
open PySem PySem.Spec PyProof.Rows L2

section
variable {X : Cx} {pins : List (Addr × Obj)} {σ : L2.St} {H : Hp} {s : Shared} {a : Addr} {kvs : List (D × D)} {h : DH}
theorem REnts.keysIn (I : Inv X pins σ H s) : ∀ {kvs : List (D × D)} {xs : List Ent}, REnts X.K X.w H kvs xs → KeysIn s.heap xs := by
  intro kvs xs r
  induction r with
  | nil => intro x hx; cases hx
  | @cons p y ps ys q t ih =>
    intro x hx
    rcases List.mem_cons.mp hx with e | hx
    · subst e
      obtain ⟨v, r1, r2⟩ := q.kv
      exact ⟨key_is I _ _ _ _ q.key r2 r1, q.deep⟩
    · exact ih x hx
theorem RH.dict (rh : RH X.K X.w H h) (I : Inv X pins σ H s) (e : h a = some (.dct kvs)) :
    ∃ xs, H a = some (.ext (isDict X.w a xs)) ∧ (a == sysModules) = false ∧ kvs.length ≤ sizeLine ∧ REnts X.K X.w H kvs xs ∧ DictG X.w s.heap a xs := by
  obtain ⟨xs, h1, h2, h3, h4, h5⟩ := rh a _ e
  have q := I.hok a _ h1
  exact ⟨xs, h1, h2, h3, h5, q.1, REnts.keysIn I h5, h4⟩
/-- a dict, read -/
theorem RH.rdict (rh : RH X.K X.w H h) (I : Inv X pins σ H s) (e : h a = some (.dct kvs) ∨ h a = some (.ldc kvs)) : ∃ xs, (a == sysModules) = false ∧ kvs.length ≤ sizeLine ∧ REnts X.K X.w H kvs xs ∧ DictG X.w s.heap a xs := by
  rcases e with e | e
  · obtain ⟨xs, h1, h2, h3, h4, h5⟩ := rh a _ e
    have q := I.hok a _ h1
    exact ⟨xs, h2, h3, h5, q.1, REnts.keysIn I h5, h4⟩
  · obtain ⟨xs, o, h1, h2, h3, h4, h5⟩ := rh a _ e
    have q := I.hok a _ h1
    exact ⟨xs, h2, h3, h5, q.2.1, REnts.keysIn I h5, h4⟩
/-- a dict to be read: one that stands or one by value -/
def dctV (d : D) (h : DH) (k : List (D × D) → Prop) : Prop := match d with
  | .ref a => rdct h a k
  | .rod ks vs => k (ks.zip vs)
  | _ => False
theorem ents_zip {K : PySem.W.Frag} {w : World} {H : Hp} : ∀ {ks vs : List D} {us ws : List V} {xs : List Ent}, EntsOf ks us ws xs → RDs K w H ks us → RDs K w H vs ws → REnts K w H (ks.zip vs) xs ∧ ks.length = vs.length
  | [], vs, _, _, _, ⟨rfl, rfl, rfl⟩, _, r => by
    have e := r.length
    rw [List.length_nil] at e
    exact ⟨.nil, e⟩
  | k :: ks, vs, _, _, _, ⟨u, ur, v, vr, x, xr, rfl, rfl, rfl, e1, e2, e3, e4, e5⟩, ⟨u', ur', e6, r1, r2⟩, r3 => by
    cases e6
    cases vs with
    | nil => have e := r3.length; cases e
    | cons d vs =>
      obtain ⟨v', vr', e7, r4, r5⟩ := r3
      cases e7
      obtain ⟨z1, z2⟩ := ents_zip e5 r2 r5
      exact ⟨.cons ⟨e1, e2, ⟨u, e3, r1⟩, ⟨v, e4, r4⟩⟩ z1, by rw [List.length_cons, List.length_cons, z2]⟩
theorem dct_of {d : D} {v : V} {k : List (D × D) → Prop} (rh : RH X.K X.w H h) (I : Inv X pins σ H s) (r : RD X.K X.w H d v) (q : dctV d h k) :
    ∃ a kvs xs, v = .ref a ∧ (a == sysModules) = false ∧ kvs.length ≤ sizeLine ∧ REnts X.K X.w H kvs xs ∧ DictG X.w s.heap a xs ∧ k kvs := by
  unfold dctV at q
  cases d with
  | ref a =>
    cases r
    obtain ⟨kvs, e, q⟩ := of_rdct q
    obtain ⟨xs, h1, h2, h3, h4⟩ := rh.rdict I e
    exact ⟨a, kvs, xs, rfl, h1, h2, h3, h4, q⟩
  | rod ks vs =>
    obtain ⟨a, o, xs, us, ws, rfl, g, h1, h2, h3, h4, r1, r2⟩ := r
    obtain ⟨z1, z2⟩ := ents_zip h4 r1 r2
    refine ⟨a, _, xs, rfl, h1, by rw [List.length_zip]; omega, z1, ⟨(I.hok a _ g).2.1, REnts.keysIn I z1, h3⟩, q⟩
  | _ => exact q.elim
/-- a dict's object, by its entries -/
theorem ext_ok {P : Program} {w : World} {H' : Hp} {h' : Heap} {xs : List Ent} (q : isDict w a xs h') : ObjOk P w H' h' a (.ext (isDict w a xs)) := by
  refine ⟨q, ?_, fun h1 h2 x k => ?_⟩
  · obtain ⟨o, _, _, ho, _⟩ := q
    exact ⟨o, ho⟩
  · obtain ⟨o, es, ep, ho, r⟩ := x
    exact ⟨o, es, ep, k o ho, r⟩
/-- may be a key -/
def isKey (d : D) : Prop := ∃ k, keyOf d = some k ∧ k.depth ≤ 7
/-- the table is written -/
theorem dict_put {xs : List Ent} {h' : Heap} {t' : Nat} {k : NestedKey} {d dv : D} {vk vv : V} {ku kv : Value} (I : Inv X pins σ H s) (rh : RH X.K X.w H h) (e : h a = some (.dct kvs)) (h1 : H a = some (.ext (isDict X.w a xs))) (z : kvs.length < sizeLine) (r : REnts X.K X.w H kvs xs) (hn : (xs.map (·.1)).Nodup)
    (hS : (a == sysModules) = false) (hk : keyOf d = some k) (dk : k.depth ≤ 7) (r1 : RelV vk ku) (r2 : RD X.K X.w H d vk) (r3 : RelV vv kv) (r4 : RD X.K X.w H dv vv) (new : isDict X.w a (setE xs k ku kv) h') (sb : Heap.SameBut a s.heap h') :
    Inv X pins σ (upd H a (.ext (isDict X.w a (setE xs k ku kv)))) { s with heap := h', toks := t' } ∧ Keeps H (upd H a (.ext (isDict X.w a (setE xs k ku kv)))) ∧ RH X.K X.w (upd H a (.ext (isDict X.w a (setE xs k ku kv)))) (put h a (.dct (dput kvs d dv))) := by
  have kp : Keeps H (upd H a (.ext (isDict X.w a (setE xs k ku kv)))) := Keeps.over h1 True.intro
  have eo := new
  obtain ⟨o, _, _, ho, _⟩ := eo
  refine ⟨I.write (x := a) (e := a) (by rw [h1]; exact True.intro) (.inl rfl) (fun b q hb w => (sb.2 b hb).trans w) ⟨o, ho⟩ (ext_ok new), kp, rh.wr kp ⟨_, upd_same, hS, ?_, setE_keys hn, (r.put hn hk dk r1 r2 r3 r4).keep kp⟩⟩
  have := dput_length kvs d dv
  omega
end

section
variable {X : Cx} {a b c e : Expr} {ta tb tc t : DTE} {pos : Pos}
def dDNew : DTE := fun _ h P => fresh h (.dct []) fun p h' => P (.ref p) h'
theorem de_dnew : DE X (.Dict [] [] pos) dDNew := by
  refine ⟨⟨fun pins s σ H Q I ⟨dσ, h, P, rs, rh, q, f⟩ => wpAny_Dict_empty ?_⟩⟩
  have nf : H s.heap.objs.size = none := I.hok.fresh (Nat.le_refl _)
  have new : isDict X.w s.heap.objs.size [] (s.heap.push { cls := .type "dict", data := .dict #[] }) := ⟨_, #[], 0, Heap.get?_push_size _ rfl, ⟨rfl, rfl, rfl⟩, rfl, rfl⟩
  have kp : Keeps H (upd H s.heap.objs.size (.ext (isDict X.w s.heap.objs.size []))) := Keeps.new nf
  refine ⟨.ref s.heap.objs.size, _, I.laid (a := s.heap.objs.size) (o := .ext (isDict X.w s.heap.objs.size [])) (t' := s.toks) (fun _ _ q => Heap.get?_push_of_some _ q) (Nat.le_refl _) (ext_ok new), rfl, ?_⟩
  exact f _ _ _ _ (q _ (rh.free nf)) kp (rh.wr kp ⟨[], upd_same, beq_eq_false_iff_ne.mpr (Ne.symm (Nat.ne_of_lt I.big)), Nat.zero_le _, List.nodup_nil, .nil⟩) rfl

/-! ### in, not in -/
def inD (h : DH) (x y : D) (k : Bool → Prop) : Prop := match y with
  | .str y => match x with
    | .str x => k (inStr x y)
    | _ => False
  | y => dctV y h fun kvs => isKey x ∧ k (dlook kvs x).isSome
def dIn : DR2 := fun x y h P => inD h x y fun b => P (.bl b) h
def dNotIn : DR2 := fun x y h P => inD h x y fun b => P (.bl (!b)) h
theorem op_dIn (hu : X.A.units + 64 < cLine) : DOp X (compareOp .In) dIn := by
  intro pins s σ H x y v u Q I rx ry q
  obtain ⟨dx, dy, h, P, r1, r2, rh, q, f⟩ := q
  have table : dctV dy h (fun kvs => isKey dx ∧ P (.bl (dlook kvs dx).isSome) h) → wpAny (model X.prog X.w) X.A (compareOp .In v u) (EP X pins σ Q) X.xe s := fun q => by
    obtain ⟨a, kvs, xs, rfl, hS, hz, re, m, ⟨k, hk, dk⟩, q⟩ := dct_of rh I r2 q
    cases ry
    refine wpAny_bind (contains_g (by omega) (key_is I _ _ _ _ hk r1 rx) dk hS m (wpAny_pure ?_))
    refine ⟨.bl (ixOf xs k).isSome, H, I.tok _, rfl, ?_⟩
    have e2 : (ixOf xs k).isSome = (dlook kvs dx).isSome := by
      rcases re.find hk with ⟨h1, h2⟩ | ⟨i, z, w, h1, h2, h3, h4⟩
      · rw [h1, h2]; rfl
      · rw [h1, h3]; rfl
    rw [e2]
    exact f _ _ _ _ q (Keeps.refl _) rh rfl
  unfold dIn inD at q
  cases dy with
  | str y =>
    cases dx with
    | str x =>
      cases r1; cases r2
      exact op_in_str pins s σ H _ _ v u Q I rx ry ⟨_, _, rfl, rfl, f _ _ _ _ q (Keeps.refl _) rh rfl⟩
    | _ => exact q.elim
  | _ => exact table q
theorem op_dNotIn (hu : X.A.units + 64 < cLine) : DOp X (compareOp .NotIn) dNotIn := by
  intro pins s σ H x y v u Q I rx ry q
  obtain ⟨dx, dy, h, P, r1, r2, rh, q, f⟩ := q
  have table : dctV dy h (fun kvs => isKey dx ∧ P (.bl (!(dlook kvs dx).isSome)) h) → wpAny (model X.prog X.w) X.A (compareOp .NotIn v u) (EP X pins σ Q) X.xe s := fun q => by
    obtain ⟨a, kvs, xs, rfl, hS, hz, re, m, ⟨k, hk, dk⟩, q⟩ := dct_of rh I r2 q
    cases ry
    refine wpAny_bind (contains_g (by omega) (key_is I _ _ _ _ hk r1 rx) dk hS m (wpAny_pure ?_))
    refine ⟨.bl (!(ixOf xs k).isSome), H, I.tok _, rfl, ?_⟩
    have e2 : (ixOf xs k).isSome = (dlook kvs dx).isSome := by
      rcases re.find hk with ⟨h1, h2⟩ | ⟨i, z, w, h1, h2, h3, h4⟩
      · rw [h1, h2]; rfl
      · rw [h1, h3]; rfl
    rw [e2]
    exact f _ _ _ _ q (Keeps.refl _) rh rfl
  unfold dNotIn inD at q
  cases dy with
  | str y =>
    cases dx with
    | str x =>
      cases r1; cases r2
      exact L2.op_notIn_str pins s σ H _ _ v u Q I rx ry ⟨_, _, rfl, rfl, f _ _ _ _ q (Keeps.refl _) rh rfl⟩
    | _ => exact q.elim
  | _ => exact table q

/-! ### d[k] -/
def dIxD : DR2 := fun y x h P => dctV y h fun kvs => isKey x ∧ oAt (dlook kvs x) fun d => P d h
theorem ix_dD (hu : X.A.units + 64 < cLine) : IxR X (LR X.K X.w dIxD) := by
  intro value slice pins s σ H x y v u Q I rx ry q hs
  obtain ⟨dx, dy, h, P, r1, r2, rh, q, f⟩ := q
  unfold dIxD at q
  obtain ⟨a, kvs, xs, rfl, hS, hz, re, m, ⟨k, hk, dk⟩, q⟩ := dct_of rh I r1 q
  obtain ⟨d, ed, q⟩ := of_oAt q
  cases rx
  rcases re.find hk with ⟨h1, h2⟩ | ⟨i, z, w, h1, h2, h3, w', rw', rd'⟩
  · rw [h1] at ed; cases ed
  · rw [h3] at ed; cases ed
    exact tail_any m.ty slot_dict_getitem.lookup (getItem_g (u := u) (by omega) (key_is I _ _ _ _ hk r2 ry) dk m h1 h2 ⟨w', H, I.tok _, rw', f _ _ _ _ q (Keeps.refl _) rh rd'⟩) hs
theorem de_ixD (hu : X.A.units + 64 < cLine) (ha : DE X a ta) (hb : DE X b tb) (hs : PlainIx b := by intro _ _; rfl) : DE X (.Subscript a b pos) (dOp dIxD ta tb) := ⟨peImp (pe_ix (ix_dD hu) ha.pe hb.pe hs) fun _ _ _ q => lift2 q⟩
/-! ### d[k] = v -/
def dSetD : DSet
  | .ref a, x, d, h, P => dctAt h a fun kvs => (isKey x ∧ kvs.length < sizeLine) ∧ P (put h a (.dct (dput kvs x d)))
  | _, _, _, _, _ => False
theorem set_dD (hu : X.A.units + 64 < cLine) : PSet X (LSet X.K X.w dSetD) := by
  intro pins s σ H o i v ov iv u Q I ro ri rv q
  obtain ⟨d1, d2, d3, h, P, r1, r2, r3, rh, q, f⟩ := q
  unfold dSetD at q
  split at q
  · cases r1
    obtain ⟨kvs, e1, ⟨⟨k, hk, dk⟩, z⟩, q⟩ := of_dctAt q
    obtain ⟨xs, g1, hS, hz, re, m⟩ := rh.dict I e1
    cases ro
    refine setItem_g (by omega) (key_is I _ _ _ _ hk r2 ri) dk m (by rw [← Paired.length re]; omega) fun h' new sb => ?_
    have n := dict_put (t' := s.toks + k.draws) I rh e1 g1 z re m.nd hS hk dk ri r2 rv r3 new sb
    exact ⟨_, n.1, f _ _ q n.2.1 n.2.2⟩
  · exact q.elim

/-! ### methods -/
def dMD (r : DRM) (to : DTE) (t : DTA) : DTE := fun σ h P => to σ h fun x h1 => dctV x h1 fun _ => t σ h1 fun ds h2 => r x ds h2 P
theorem de_md {o e : Expr} {es : List Expr} {to : DTE} {t : DTA} {name : Str} {id : String} {apos cpos : Pos} {r : DRM} (slot : Slot "dict" name id) (hty : typeOf (.builtin id) = pure (.type "method_descriptor")) (hm : MtR X id (LM X.K X.w r)) (ho : DE X o to) (ha : DA X (e :: es) t)
    (hbase : attributeBase o name X.env (eval o X.env) = eval o X.env := by rfl)
    (hfew : ((backTo cpos (starEach (e :: es) X.env)).all (fun x => !x.1) && (backToKw cpos (keywordEach [] X.env)).all (fun x => x.1.isSome)
      && decide ((e :: es).length + ([] : List Keyword).length + (if ([] : List Keyword).isEmpty then 0 else 1) < 30)) = true := by rfl)
    (hline : (apos.endLine == cpos.line) = true := by rfl) (hs : starEach (e :: es) X.env = (false, eval e X.env) :: starEach es X.env := by rfl) (hplain : (backTo cpos (starEach es X.env)).any (·.1) = false := by rfl) :
    DE X (.Call (.Attribute o name apos) (e :: es) [] cpos) (dMD r to t) := by
  refine ⟨⟨fun pins s σ H Q I ⟨dσ, h, P, rs, rh, q, f⟩ => ?_⟩⟩
  refine wpAny_Call_method_late hbase hfew hline rfl (thn (ho.pe.run pins s σ H (fun x H1 => ∃ d h1, RD X.K X.w H1 d x ∧ RH X.K X.w H1 h1 ∧ Keeps H H1 ∧ (dctV d h1 fun _ => t dσ h1 fun ds h2 => r d ds h2 P)) I ⟨dσ, h, _, rs, rh, q, fun d h1 v H1 q1 k1 rh1 r1 => ⟨d, h1, r1, rh1, k1, q1⟩⟩) fun v s1 ⟨x, H1, I1, r1, d, h1, rd, rh1, k1, q1⟩ => ?_)
  obtain ⟨a, kvs, xs, rfl, hS, hz, re, m, q1⟩ := dct_of rh1 I1 rd q1
  · cases r1
    refine ⟨"dict", id, PySem.F.plainAttrs_dict, slot, hty, m.ty, fun b eb => ?_, ?_⟩
    · cases eb
      obtain ⟨o, _, _, h1, h2, _⟩ := m.ob
      exact ⟨o, h1, h2.2.1⟩
    · have hA := ha.pa.run cpos pins s1 σ H1 (fun xs H2 => LM X.K X.w r (V.ref a) xs H2 Q) I1 ⟨dσ, h1, _, rs.keep k1, rh1, q1, fun ds h2 us H2 q2 k2 rh2 r2 => ⟨d, ds, h2, P, RD.keep k2 _ _ rd, r2, rh2, q2, f.keep (k1.trans k2)⟩⟩
      rw [hs] at hA ⊢
      refine Calls.callWith_builtin (by show (false || (backTo cpos (starEach es X.env)).any (·.1)) = false; rw [hplain] <;> rfl) (Calls.evalArgs_plain ?_)
      exact thn hA fun us s2 ⟨vs, H2, I2, r2, q2⟩ => hm pins s2 σ H2 (.ref a) vs _ us Q I2 rfl r2 q2
noncomputable def dGet : DRM
  | d, [x], h, P => dctV d h fun kvs => isKey x ∧ P ((dlook kvs x).getD .non) h
  | d, [x, y], h, P => dctV d h fun kvs => isKey x ∧ P ((dlook kvs x).getD y) h
  | _, _, _, _ => False
theorem get_rel {K : PySem.W.Frag} {ω : World} {H : Hp} {kvs : List (D × D)} {xs : List Ent} {k : NestedKey} {x y : D} {v : V} {u : Value} (re : REnts K ω H kvs xs) (hk : keyOf x = some k) (ry : RelV v u) (rd : RD K ω H y v) :
    ∃ w, RelV w (((ixOf xs k).bind fun i => (xs[i]?).map (·.2.2)).getD u) ∧ RD K ω H ((dlook kvs x).getD y) w := by
  rcases re.find hk with ⟨h1, h2⟩ | ⟨i, z, w, h1, h2, h3, w', rw', rd'⟩
  · rw [h1, h2]; exact ⟨v, ry, rd⟩
  · rw [h3, h1]
    have e : ((some i).bind fun i => (xs[i]?).map (·.2.2)) = some z.2.2 := by
      show (xs[i]?).map _ = _
      rw [h2]; rfl
    rw [e]
    exact ⟨w', rw', rd'⟩
theorem mt_dGet (hu : X.A.units + 64 < cLine) : MtR X "dict.get" (LM X.K X.w dGet) := by
  intro pins s σ H x xs v us Q I rx rs q
  obtain ⟨d, ds, h, P, r1, r2, rh, q, f⟩ := q
  unfold dGet at q
  split at q
  · obtain ⟨y, rfl, ry⟩ := r2.one
    obtain ⟨u, rfl, ru⟩ := vals1 rs
    obtain ⟨a, kvs, zs, rfl, hS, hz, re, m, ⟨k, hk, dk⟩, q⟩ := dct_of rh I r1 q
    cases rx
    refine dget_g (more := []) (dflt := .none) (.inl ⟨rfl, rfl⟩) (by omega) (key_is I _ _ _ _ hk ry ru) dk hS m ?_
    obtain ⟨w, w1, w2⟩ := get_rel re hk (y := .non) (v := .non) (u := .none) rfl rfl
    exact ⟨w, H, I.tok _, w1, f _ _ _ _ q (Keeps.refl _) rh w2⟩
  · obtain ⟨y, y', rfl, ry, ry'⟩ := r2.two
    obtain ⟨u, u', rfl, ru, ru'⟩ := vals2 rs
    obtain ⟨a, kvs, zs, rfl, hS, hz, re, m, ⟨k, hk, dk⟩, q⟩ := dct_of rh I r1 q
    cases rx
    refine dget_g (more := [u']) (dflt := u') (.inr rfl) (by omega) (key_is I _ _ _ _ hk ry ru) dk hS m ?_
    obtain ⟨w, w1, w2⟩ := get_rel re hk ru' ry'
    exact ⟨w, H, I.tok _, w1, f _ _ _ _ q (Keeps.refl _) rh w2⟩
  · exact q.elim
end

/-! ### dict comprehensions -/
section
variable {X : Cx} {pos : Pos}
noncomputable def dcGo (g : DTG) (tt : DTT) (tk tv : DTE) (st : DH → Prop) (σ : DSt) (L : Addr) : List D → DH → (DH → Prop) → Prop
  | [], h, P => st h ∧ P h
  | x :: xs, h, P => st h ∧ g x σ h fun σ2 h2 => tt σ2 h2 fun b h3 => if b = true then tk σ2 h3 fun y h4 => tv σ2 h4 fun z h5 => dctAt h5 L fun kvs => (isKey y ∧ kvs.length < sizeLine) ∧ dcGo g tt tk tv st σ L xs (put h5 L (.dct (dput kvs y z))) P
    else dcGo g tt tk tv st σ L xs h3 P
theorem dcGo_st {g : DTG} {tt : DTT} {tk tv : DTE} {st : DH → Prop} {σ : DSt} {L : Addr} {xs : List D} {h : DH} {P : DH → Prop} (q : dcGo g tt tk tv st σ L xs h P) : st h := by
  cases xs with
  | nil => exact q.1
  | cons x xs => exact q.1
noncomputable def dDc (ti : DTI) (g : DTG) (tt : DTT) (tk tv : DTE) (vs : List Nat) : DTE := fun σ h P => ti σ h fun xs st h1 => fresh h1 (.dct []) fun L h2 => dcGo g tt tk tv st (dwipe σ vs) L xs h2 (P (.ref L))
theorem de_dc {kx vx tg iter : Expr} {ifs : List Expr} {scope : Scope} {own : List (Str × Nat)} {ws : List Nat} {ti : DTI} {g : DTG} {tt : DTT} {tk tv : DTE} (hu : X.A.units + 64 < cLine) (hc : X.calm = true) (hN : X.N.Nodup) (hi : DI X tg iter ti) (ok : BlkOk X.N X.env.scope scope own) (hw : ∀ i ∈ ws, i ∈ own.map (·.2))
    (hg : InBlk X scope fun Y => DG Y ws tg g) (ht : InBlk X scope fun Y => DTs Y ifs tt) (hk : InBlk X scope fun Y => DE Y kx tk) (he : InBlk X scope fun Y => DE Y vx tv) (hs : ∀ x, foldedSetIterable iter X.env x = pure x := by intro _; rfl) :
    DE X (.DictComp kx vx [⟨tg, iter, ifs, 0⟩] scope pos) (dDc ti g tt tk tv (own.map (·.2))) := by
  refine ⟨⟨fun pins s σ H Q I q => ?_⟩⟩
  rw [arm_eval_DictComp]
  obtain ⟨dσ, h, P, rs, rh, q, f⟩ := q
  have closed : ∀ y ∈ scope.names, y.2 = .free → ∃ c, X.env.cells.lookup y.1 = some c := fun y hy e => (ok.free y hy e).elim (fun k => I.ok.has _ (.inl k)) fun k => I.ok.has _ (.inr k)
  refine wpAny_comprehension_free (use := none) rfl hs (closure_ok closed) ok.kind (fun y hy e => by rw [ok.uniq y hy, e]) ?_
  have src := hi.pi.run pins s σ H (fun J H1 => ∃ xs st h1, Keeps H H1 ∧ RH X.K X.w H1 h1 ∧ ItOk X.K X.w H1 J xs st ∧ fresh h1 (.dct []) fun L h2 => dcGo g tt tk tv st (dwipe dσ (own.map (·.2))) L xs h2 (P (.ref L))) I
    ⟨dσ, h, _, rs, rh, q, fun xs st h1 J H1 q1 k1 rh1 o1 => ⟨xs, st, h1, k1, rh1, o1, q1⟩⟩
  refine thn src fun xv s1 hx => thn hx fun itv s2 h2 => ?_
  obtain ⟨it, fp, tn, J, H2, rfl, I2, T, st2, f2, xs, st, h1, k1, rh1, o1, q1⟩ := h2
  refine wpAny_newObj_type (newEnv_comp ?_)
  -- the new dict stands at L
  generalize hL : s2.heap.objs.size = L
  have nL : H2 L = none := I2.hok.fresh (Nat.le_of_eq hL)
  have q2 := q1 L (rh1.free nL)
  generalize e3 : ({ s2 with heap := s2.heap.push { cls := .type "dict", data := .dict #[] } } : Shared) = s3
  have heap3 : s3.heap = s2.heap.push { cls := .type "dict", data := .dict #[] } := by rw [← e3]
  have made : isDict X.w L [] s3.heap := by
    rw [heap3, ← hL]
    exact ⟨_, #[], 0, Heap.get?_push_size _ rfl, ⟨rfl, rfl, rfl⟩, rfl, rfl⟩
  have kN : Keeps H2 (upd H2 L (.ext (isDict X.w L []))) := Keeps.new nL
  have rhN : RH X.K X.w (upd H2 L (.ext (isDict X.w L []))) (put h1 L (.dct [])) := rh1.wr kN ⟨[], upd_same, by rw [← hL]; exact beq_eq_false_iff_ne.mpr (Ne.symm (Nat.ne_of_lt I2.big)), Nat.zero_le _, List.nodup_nil, .nil⟩
  have I3 : Inv X pins σ (upd H2 L (.ext (isDict X.w L []))) s3 := by
    have m2 := made
    rw [heap3] at m2
    rw [← e3]
    exact I2.laid (a := L) (t' := s2.toks) (fun b o e => Heap.get?_push_of_some _ e) (Nat.le_of_eq hL) (ext_ok m2)
  have low : ∀ b ∈ fp, b < s2.heap.objs.size := fun b hb => let ⟨o, eo, _⟩ := T.obj _ _ st2 b hb; Heap.lt_size eo
  have f3 : ∀ b ∈ fp, FpOk X pins (upd H2 L (.ext (isDict X.w L []))) b ∧ b < s3.heap.objs.size := fun b hb => by
    have lt := low b hb
    refine ⟨⟨?_, (f2 b hb).2⟩, by rw [heap3, Heap.size_push]; exact Nat.lt_succ_of_lt lt⟩
    rw [upd_ne (by rw [← hL]; exact Nat.ne_of_lt lt)]
    exact (f2 b hb).1
  have t3 : tn 0 s3.heap := T.keep _ _ _ st2 fun b _ o eo => by rw [heap3]; exact Heap.get?_push_of_some _ eo
  have I4 := block_start I3 ok hN f3
  generalize eH : upd H2 L (.ext (isDict X.w L [])) = H3 at I3 I4 f3 kN rhN
  generalize eC : compEnvC scope (cellsFrom (s3.heap.objs.size + 1) scope.names (cloFrom X.env.cells scope.names [])) s3.heap.objs.size X.env = ce at I4
  have pg : DG (X.blk s3 H3 scope ce fp) ws tg g := by rw [← eC]; exact hg s3 H3 _ _ fp
  have pt : DTs (X.blk s3 H3 scope ce fp) ifs tt := by rw [← eC]; exact ht s3 H3 _ _ fp
  have pk : DE (X.blk s3 H3 scope ce fp) kx tk := by rw [← eC]; exact hk s3 H3 _ _ fp
  have pe : DE (X.blk s3 H3 scope ce fp) vx tv := by rw [← eC]; exact he s3 H3 _ _ fp
  have frame : ce.locals = s3.heap.objs.size := by rw [← eC]; rfl
  show codeAny _ _ (.compStart (.DictComp kx vx [⟨tg, iter, ifs, 0⟩] scope pos) 0 (.ref it) (.ref L) (compEnvC scope (cellsFrom (s3.heap.objs.size + 1) scope.names (cloFrom X.env.cells scope.names [])) s3.heap.objs.size X.env)) (compPost (model X.prog X.w) X.A X.xe none _ (.ref L) s3.heap.objs.size) { s3 with heap := pushCells (s3.heap.push { cls := .type "dict", data := .dict #[] }) scope.names }
  rw [eC]
  generalize e4 : ({ s3 with heap := pushCells (s3.heap.push { cls := .type "dict", data := .dict #[] }) scope.names } : Shared) = s4 at I4 ⊢
  have t4 : tn 0 s4.heap := T.keep _ _ _ t3 fun b _ o eo => by rw [← e4]; exact pushCells_keeps _ _ _ _ (Heap.get?_push_of_some _ eo)
  have ours : ∀ {σ' : L2.St} {H' : Hp} {s' : Shared}, Inv (X.blk s3 H3 scope ce fp) [] σ' H' s' → (∀ b ∈ fp, H' b = none) → ∀ b ∈ fp, FpOk (X.blk s3 H3 scope ce fp) [] H' b := fun {σ' H' s'} J' none_ b hb =>
    ⟨none_ b hb, (J'.ok.exf b hb).1, J'.ok.exfs b hb, .inl hb, fun x c eo => (J'.ok.exf b hb).2 x c eo, fun p hp => absurd (show p ∈ ([] : List (Addr × Obj)) ++ [] from hp) (by simp)⟩
  have rsw : RS X.K X.w H3 (dwipe dσ (own.map (·.2))) (L2.wipe σ (own.map (·.2))) := (rs.keep (k1.trans kN)).wipe _
  have loop : codeAny (model X.prog X.w) X.A (.compLoop (.DictComp kx vx [⟨tg, iter, ifs, 0⟩] scope pos) 0 (.ref it) (.ref L) ce) (compPost (model X.prog X.w) X.A X.xe none (EP X pins σ Q) (.ref L) s3.heap.objs.size) s4 := by
    refine compLoop_anyD (fun n s' => ∃ i H' h', Inv (X.blk s3 H3 scope ce fp) [] (L2.wipe σ (own.map (·.2))) H' s' ∧ tn i s'.heap ∧ (∀ b ∈ fp, H' b = none) ∧ n = xs.length - i ∧ i ≤ xs.length ∧ Keeps H3 H' ∧ RH X.K X.w H' h' ∧ dcGo g tt tk tv st (dwipe dσ (own.map (·.2))) L (xs.drop i) h' (P (.ref L))) ?_ xs.length
      ⟨0, H3, _, I4, t4, fun b hb => (f3 b hb).1.1, by simp, Nat.zero_le _, Keeps.refl _, rhN, q2⟩
    rintro n s5 ⟨i, H5, h5, I5, t5, n5, rfl, hi5, k5, rh5, q5⟩
    obtain ⟨goes, stops⟩ := o1 H5 h5 (kN.trans k5) rh5 (dcGo_st q5)
    by_cases hlt : i < xs.length
    · rw [List.drop_eq_getElem_cons hlt] at q5
      obtain ⟨p1, p2⟩ := goes i _ (List.getElem?_eq_getElem hlt)
      refine thnF (T.item (X.blk s3 H3 scope ce fp) rfl rfl rfl hc i [] s5 _ H5 (fun _ _ => False) I5 (ours I5 n5) t5 p1) fun r s6 ⟨u, hr, g6⟩ => ?_
      subst hr
      refine thnF g6 fun _ s7 ⟨x, H7, I7, r7, y7, t7, n7⟩ => ?_
      obtain ⟨k7, rh7, rd7⟩ := p2 x H7 y7
      have I7p := I7.pinned (ours I7 n7) (T.obj _ _ t7)
      refine thnF (pg.pg.run _ s7 _ H7 x u (fun σ8 H8 => ∃ dσ8 h8, Keeps H7 H8 ∧ RH X.K X.w H8 h8 ∧ RS X.K X.w H8 dσ8 σ8 ∧ SameOff ws (L2.wipe σ (own.map (·.2))) σ8 ∧ tt dσ8 h8 fun b h3 => if b = true then tk dσ8 h3 fun y h4 => tv dσ8 h4 fun z h5 => dctAt h5 L fun kvs => (isKey y ∧ kvs.length < sizeLine) ∧ dcGo g tt tk tv st (dwipe dσ (own.map (·.2))) L (xs.drop (i + 1)) (put h5 L (.dct (dput kvs y z))) (P (.ref L))
        else dcGo g tt tk tv st (dwipe dσ (own.map (·.2))) L (xs.drop (i + 1)) h3 (P (.ref L))) I7p r7 ⟨_, _, h5, _, rd7, rsw.keep (k5.trans k7), rh7, q5.2, fun dσ8 h8 σ8 H8 q8 k8 rh8 rs8 so8 => ⟨dσ8, h8, k8, rh8, rs8, so8, q8⟩⟩) fun _ s8 ⟨σ8, H8, I8, dσ8, h8, k8, rh8, rs8, so8, q8⟩ => ?_
      have w8 := wipe_same so8 hw
      refine thnF (pt.pts.run _ s8 σ8 H8 (fun b H9 => ∃ h9, Keeps H8 H9 ∧ RH X.K X.w H9 h9 ∧ if b = true then tk dσ8 h9 fun y h4 => tv dσ8 h4 fun z h5 => dctAt h5 L fun kvs => (isKey y ∧ kvs.length < sizeLine) ∧ dcGo g tt tk tv st (dwipe dσ (own.map (·.2))) L (xs.drop (i + 1)) (put h5 L (.dct (dput kvs y z))) (P (.ref L))
        else dcGo g tt tk tv st (dwipe dσ (own.map (·.2))) L (xs.drop (i + 1)) h9 (P (.ref L))) I8 ⟨dσ8, h8, _, rs8, rh8, q8, fun b h9 H9 q9 k9 rh9 => ⟨h9, k9, rh9, q9⟩⟩) fun b s9 ⟨H9, I9, h9, k9, rh9, q9⟩ => ?_
      have next : ∀ {s' : Shared} {H' : Hp} {h' : DH}, Inv (X.blk s3 H3 scope ce fp) ([] ++ pinsAt fp s7.heap) σ8 H' s' → Keeps H9 H' → RH X.K X.w H' h' → dcGo g tt tk tv st (dwipe dσ (own.map (·.2))) L (xs.drop (i + 1)) h' (P (.ref L)) →
          ∃ m, m < xs.length - i ∧ ∃ i H' h', Inv (X.blk s3 H3 scope ce fp) [] (L2.wipe σ (own.map (·.2))) H' s' ∧ tn i s'.heap ∧ (∀ b ∈ fp, H' b = none) ∧ m = xs.length - i ∧ i ≤ xs.length ∧ Keeps H3 H' ∧ RH X.K X.w H' h' ∧ dcGo g tt tk tv st (dwipe dσ (own.map (·.2))) L (xs.drop i) h' (P (.ref L)) := fun {s' H' h'} J' kk rr qq => by
        have pin : ∀ b ∈ fp, ∀ o, s7.heap.get? b = some o → s'.heap.get? b = some o ∧ H' b = none := fun b hb o eo =>
          have z := J'.pin (b, o) (List.mem_append_right _ (List.mem_append_right _ (mem_pinsAt hb eo)))
          ⟨z.1, z.2.1⟩
        have len8 : (L2.wipe σ (own.map (·.2))).length = σ8.length := by rw [← w8, wipe_length]
        refine ⟨xs.length - (i + 1), by omega, i + 1, H', h', (J'.unpinned (pins := [])).weak len8 (fun j v ej => ?_), T.keep _ _ _ t7 fun b hb o eo => (pin b hb o eo).1, fun b hb => ?_, rfl, hlt, k5.trans (k7.trans (k8.trans (k9.trans kk))), rr, qq⟩
        · rw [← w8] at ej
          exact (wipe_some ej).1
        · obtain ⟨o, eo, _⟩ := T.obj _ _ t7 b hb
          exact (pin b hb o eo).2
      cases b with
      | false =>
        rw [if_neg Bool.false_ne_true] at q9
        exact next I9 (Keeps.refl _) rh9 q9
      | true =>
        rw [if_pos rfl] at q9
        refine thnF (pk.pe.run _ s9 σ8 H9 (fun v H10 => ∃ y h10, Keeps H9 H10 ∧ RH X.K X.w H10 h10 ∧ RD X.K X.w H10 y v ∧ tv dσ8 h10 fun z h5 => dctAt h5 L fun kvs => (isKey y ∧ kvs.length < sizeLine) ∧ dcGo g tt tk tv st (dwipe dσ (own.map (·.2))) L (xs.drop (i + 1)) (put h5 L (.dct (dput kvs y z))) (P (.ref L))) I9
          ⟨dσ8, h9, _, rs8.keep k9, rh9, q9, fun d h10 v H10 q10 k10 rh10 r10 => ⟨d, h10, k10, rh10, r10, q10⟩⟩) fun kv s10 ⟨yk, H10, I10, r10, y, h10, k10, rh10, rd10, q10⟩ => ?_
        refine thnF (pe.pe.run _ s10 σ8 H10 (fun v H11 => ∃ z h11, Keeps H10 H11 ∧ RH X.K X.w H11 h11 ∧ RD X.K X.w H11 z v ∧ dctAt h11 L fun kvs => (isKey y ∧ kvs.length < sizeLine) ∧ dcGo g tt tk tv st (dwipe dσ (own.map (·.2))) L (xs.drop (i + 1)) (put h11 L (.dct (dput kvs y z))) (P (.ref L))) I10
          ⟨dσ8, h10, _, rs8.keep (k9.trans k10), rh10, q10, fun d h11 v H11 q11 k11 rh11 r11 => ⟨d, h11, k11, rh11, r11, q11⟩⟩) fun vv s11 ⟨yv, H11, I11, r11, z, h11, k11, rh11, rd11, q11⟩ => ?_
        obtain ⟨kvs, e11, ⟨⟨k, hk11, dk11⟩, z11⟩, q12⟩ := of_dctAt q11
        obtain ⟨es, g11, hS, hz, re, m⟩ := RH.dict (X := X.blk s3 H3 scope ce fp) rh11 I11 e11
        have ry := RD.keep k11 _ _ rd10
        refine set_g (show X.A.units + 8 < cLine by omega) (key_is I11 _ _ _ _ hk11 ry r10) dk11 m (by rw [← Paired.length re]; omega) fun h' new sb => ?_
        have n := dict_put (X := X.blk s3 H3 scope ce fp) (t' := s11.toks + k.draws) I11 rh11 e11 g11 z11 re m.nd hS hk11 dk11 r10 ry r11 rd11 new sb
        exact next n.1 (k10.trans (k11.trans n.2.1)) n.2.2 q12
    · have ei : i = xs.length := by omega
      subst ei
      rw [List.drop_length] at q5
      refine thnF (T.done (X.blk s3 H3 scope ce fp) rfl rfl rfl hc xs.length [] s5 _ H5 (fun _ _ => False) I5 (ours I5 n5) t5 stops) fun r s6 ⟨hr, I6⟩ => ?_
      subst hr
      have I7 : Inv X pins σ H5 s6 := I3.call' (ch := fp) I6.os I6.base I6.hok I6.bare fun b hb => ⟨(f3 b hb).1.2.2.2.1, (f3 b hb).1.2.1, (f3 b hb).1.2.2.2.2.1, (f3 b hb).1.2.2.2.2.2⟩
      have gone : H5 s3.heap.objs.size = none := by
        have z : H5 ce.locals = none := I6.free
        rw [frame] at z
        exact z
      obtain ⟨mm, hn, _⟩ := I6.loc
      have hn2 : s6.heap.Ns ce.locals mm := hn
      rw [frame] at hn2
      refine ⟨mm, hn2, fun h'' sb => ?_⟩
      obtain ⟨c0, c1, c2, c3, c4, c5⟩ := I3.fpOk (H' := H5) (Nat.le_refl _) gone
      exact ⟨.ref L, H5, I7.turned (t' := s6.toks) (fun b o hb eo => (sb.2 b hb).trans eo) c0 c1 c3 c4 c5, rfl, f _ _ _ _ q5.2 (k1.trans (kN.trans k5)) rh5 rfl⟩
  exact codeAny_compStart_dict loop (T.self X.A 0 _ _ _ t4 loop)
end
end DL
/-! D10: isinstance, the law's own entry, promises by the number of arguments. -/
namespace DL
open PySem PySem.Spec PyProof.Rows L2

section
variable {X : Cx}
def tyName (d : D) (h : DH) : Option String := match d with
  | .non => some "NoneType"
  | .bl _ => some "bool"
  | .int _ => some "int"
  | .str _ => some "str"
  | .tup _ => some "tuple"
  | .rol _ => some "list"
  | .ref a => match h a with
    | some (.lst _) => some "list"
    | _ => none
  | .ty _ => none
  | .rng _ _ => none
  | .rod _ _ => none
  | .obj _ _ _ => none
theorem tyName_ok {K : PySem.W.Frag} {w : World} {H : Hp} {h : DH} {d : D} {v : V} {t : String} (rh : RH K w H h) (r : RD K w H d v) (e : tyName d h = some t) : TyX K H v (.type t) := by
  cases d with
  | non => cases r; cases e; exact .base .non
  | bl b => cases r; cases e; exact .base (.bl b)
  | int b => cases r; cases e; exact .base (.int b)
  | str b => cases r; cases e; exact .base (.str b)
  | ty n => cases e
  | rng _ _ => cases e
  | rod _ _ => cases e
  | obj _ _ _ => cases e
  | tup ds =>
    cases e
    obtain ⟨a, vs, rfl, s, _⟩ := r
    rcases s with (s | ⟨o, s⟩) | ⟨o, its, n, s, c, _⟩
    · exact .base (.tup s)
    · exact .fTuple s
    · exact .kTuple s c
  | rol ds =>
    cases e
    obtain ⟨a, vs, rfl, s, _⟩ := r
    rcases s with ⟨o, s⟩ | ⟨o, its, n, s, c, _⟩
    · exact .base (.frz s)
    · exact .kList s c
  | ref a =>
    cases r
    unfold tyName at e
    dsimp only at e
    split at e
    · rename_i xs q
      cases e
      obtain ⟨vs, g, _⟩ := rh.lst q
      exact .base (.lst g)
    · cases e
/-- isinstance(x, T), T a built-in type -/
def dIsi : DRC
  | [d, .ty n], h, P => match tyName d h with
    | some t => ∃ b, kitB t n = some b ∧ P (.bl b) h
    | none => False
  | _, _, _ => False
theorem call_dIsi : DCall X (.builtin "isinstance") dIsi := by
  intro pins s σ H xs us Q I rx q
  obtain ⟨ds, h, P, r, rh, q, f⟩ := q
  unfold dIsi at q
  split at q
  · split at q
    · rename_i t et
      obtain ⟨b, eb, q⟩ := q
      obtain ⟨v, c, rfl, rv, rc⟩ := r.two
      cases rc
      exact call_isi pins s σ H _ us Q I rx ⟨v, .ty _, .type t, .type _, b, rfl, .ty _, tyName_ok rh rv et, kit_ty eb, f _ _ _ _ q (Keeps.refl _) rh rfl⟩
    · exact q.elim
  · exact q.elim
theorem kit_int_int : kitB "int" "int" = some true := by decide +kernel
theorem kit_int_bool : kitB "int" "bool" = some false := by decide +kernel
theorem kit_int_str : kitB "int" "str" = some false := by decide +kernel
theorem kit_int_tuple : kitB "int" "tuple" = some false := by decide +kernel
theorem kit_bool_bool : kitB "bool" "bool" = some true := by decide +kernel
theorem kit_bool_int : kitB "bool" "int" = some true := by decide +kernel
theorem kit_str_str : kitB "str" "str" = some true := by decide +kernel
theorem kit_str_int : kitB "str" "int" = some false := by decide +kernel
theorem kit_str_tuple : kitB "str" "tuple" = some false := by decide +kernel
theorem kit_tuple_tuple : kitB "tuple" "tuple" = some true := by decide +kernel
theorem kit_tuple_int : kitB "tuple" "int" = some false := by decide +kernel
theorem kit_tuple_str : kitB "tuple" "str" = some false := by decide +kernel
theorem kit_list_tuple : kitB "list" "tuple" = some false := by decide +kernel
theorem kit_none_tuple : kitB "NoneType" "tuple" = some false := by decide +kernel
end

/-! ### the law's entry -/
def lawSp : DSp := fun ds h P => ∃ ns : List Int, ds = [.rol (ns.map .int)] ∧ ns.length ≤ 63 ∧ ∀ h', P (.bl true) h'
theorem rds_ints {K : PySem.W.Frag} {ω : World} {H : Hp} : ∀ ns : List Int, RDs K ω H (ns.map D.int) (ns.map V.int)
  | [] => rfl
  | n :: r => ⟨.int n, r.map V.int, rfl, rfl, rds_ints r⟩
theorem law_in {K : PySem.W.Frag} {w : World} {H : Hp} {a : Addr} {ns : List Int} (hl : ns.length ≤ 63) (hO : Only H) (hS : SqL K H a (ns.map V.int)) : LSp K w lawSp [.ref a] H (fun v _ => v = .bl true) fun _ _ _ => False := by
  refine ⟨[.rol (ns.map .int)], fun _ => none, fun d _ => d = .bl true, ⟨.ref a, [], rfl, ⟨a, ns.map V.int, rfl, ?_, rds_ints ns⟩, rfl⟩, (fun b o e => by cases e), ⟨ns, rfl, hl, fun _ => rfl⟩, fun d h v H' p _ _ r => ?_⟩
  · rcases hS with (s | ⟨o, s⟩) | s
    · rcases hO a with z | ⟨o, xs, z⟩
      · rw [s] at z; cases z
      · rw [s] at z; cases z
    · exact .inl ⟨o, s⟩
    · exact .inr s
  · subst p
    exact r

/-! ### promises by the number of arguments -/
def sp0 (f : DH → DK → Prop) : DSp := fun ds h P => match ds with
  | [] => f h P
  | _ => False
def sp1 (f : D → DH → DK → Prop) : DSp := fun ds h P => match ds with
  | [a] => f a h P
  | _ => False
def sp2 (f : D → D → DH → DK → Prop) : DSp := fun ds h P => match ds with
  | [a, b] => f a b h P
  | _ => False
def sp3 (f : D → D → D → DH → DK → Prop) : DSp := fun ds h P => match ds with
  | [a, b, c] => f a b c h P
  | _ => False
def sp4 (f : D → D → D → D → DH → DK → Prop) : DSp := fun ds h P => match ds with
  | [a, b, c, d] => f a b c d h P
  | _ => False
def sp5 (f : D → D → D → D → D → DH → DK → Prop) : DSp := fun ds h P => match ds with
  | [a, b, c, d, e] => f a b c d e h P
  | _ => False
section
variable {P : Program} {w : World} {K : PySem.W.Frag} {mg : Str → Option Value} {base : Heap} {x qual : Str} {st : Stmt} {f : Addr} {fd : FuncData} {N ps : List Str} {k : Nat}
abbrev Body (P : Program) (w : World) (K : PySem.W.Frag) (mg : Str → Option Value) (base : Heap) (N : List Str) (qual : Str) (st : Stmt) (f : Addr) (k : Nat) (p : DTS → Prop) : Prop :=
  ∀ (cdv : Value) (A : Around) (outer : List Env) (s : Shared) (H : Hp) (E : XK), Room k (A.deeper (envOfC qual (defScope st) s.heap.objs.size f cdv)) →
      ∃ t, DSs (cxOf CX0 P w K mg base N qual (defScope st) f cdv A outer s H E).nox (defBody st) t ∧ p t
abbrev ends (Q : DK) : DEnds := { nx := fun _ => Wk Q .non, rt := Wk Q }
theorem dfn0 {g : DH → DK → Prop} (F : Fun K x qual st f fd) (S : FnScope N ps (defScope st)) (hl : ps.length = 0) (b : Body P w K mg base N qual st f k fun t => ∀ h Q, g h Q → t (ends Q) (dstart N []) h) : DFn P w K mg base (k + 1) f fd ps (sp0 g) := by
  refine dfn_ok F S (fun ds h Q q => ?_) fun cdv A outer s H E hr => ?_
  · unfold sp0 at q
    split at q
    · exact hl.symm
    · exact q.elim
  · obtain ⟨t, ht, hq⟩ := b cdv A outer s H E hr
    refine ⟨t, ht, fun ds h Q q => ?_⟩
    unfold sp0 at q
    split at q
    · exact hq _ _ q
    · exact q.elim
theorem dfn1 {g : D → DH → DK → Prop} (F : Fun K x qual st f fd) (S : FnScope N ps (defScope st)) (hl : ps.length = 1) (b : Body P w K mg base N qual st f k fun t => ∀ p0 h Q, g p0 h Q → t (ends Q) (dstart N [p0]) h) : DFn P w K mg base (k + 1) f fd ps (sp1 g) := by
  refine dfn_ok F S (fun ds h Q q => ?_) fun cdv A outer s H E hr => ?_
  · unfold sp1 at q
    split at q
    · exact hl.symm
    · exact q.elim
  · obtain ⟨t, ht, hq⟩ := b cdv A outer s H E hr
    refine ⟨t, ht, fun ds h Q q => ?_⟩
    unfold sp1 at q
    split at q
    · exact hq _ _ _ q
    · exact q.elim
theorem dfn2 {g : D → D → DH → DK → Prop} (F : Fun K x qual st f fd) (S : FnScope N ps (defScope st)) (hl : ps.length = 2) (b : Body P w K mg base N qual st f k fun t => ∀ p0 p1 h Q, g p0 p1 h Q → t (ends Q) (dstart N [p0, p1]) h) : DFn P w K mg base (k + 1) f fd ps (sp2 g) := by
  refine dfn_ok F S (fun ds h Q q => ?_) fun cdv A outer s H E hr => ?_
  · unfold sp2 at q
    split at q
    · exact hl.symm
    · exact q.elim
  · obtain ⟨t, ht, hq⟩ := b cdv A outer s H E hr
    refine ⟨t, ht, fun ds h Q q => ?_⟩
    unfold sp2 at q
    split at q
    · exact hq _ _ _ _ q
    · exact q.elim
theorem dfn3 {g : D → D → D → DH → DK → Prop} (F : Fun K x qual st f fd) (S : FnScope N ps (defScope st)) (hl : ps.length = 3) (b : Body P w K mg base N qual st f k fun t => ∀ p0 p1 p2 h Q, g p0 p1 p2 h Q → t (ends Q) (dstart N [p0, p1, p2]) h) : DFn P w K mg base (k + 1) f fd ps (sp3 g) := by
  refine dfn_ok F S (fun ds h Q q => ?_) fun cdv A outer s H E hr => ?_
  · unfold sp3 at q
    split at q
    · exact hl.symm
    · exact q.elim
  · obtain ⟨t, ht, hq⟩ := b cdv A outer s H E hr
    refine ⟨t, ht, fun ds h Q q => ?_⟩
    unfold sp3 at q
    split at q
    · exact hq _ _ _ _ _ q
    · exact q.elim
theorem dfn4 {g : D → D → D → D → DH → DK → Prop} (F : Fun K x qual st f fd) (S : FnScope N ps (defScope st)) (hl : ps.length = 4) (b : Body P w K mg base N qual st f k fun t => ∀ p0 p1 p2 p3 h Q, g p0 p1 p2 p3 h Q → t (ends Q) (dstart N [p0, p1, p2, p3]) h) : DFn P w K mg base (k + 1) f fd ps (sp4 g) := by
  refine dfn_ok F S (fun ds h Q q => ?_) fun cdv A outer s H E hr => ?_
  · unfold sp4 at q
    split at q
    · exact hl.symm
    · exact q.elim
  · obtain ⟨t, ht, hq⟩ := b cdv A outer s H E hr
    refine ⟨t, ht, fun ds h Q q => ?_⟩
    unfold sp4 at q
    split at q
    · exact hq _ _ _ _ _ _ q
    · exact q.elim
theorem dfn5 {g : D → D → D → D → D → DH → DK → Prop} (F : Fun K x qual st f fd) (S : FnScope N ps (defScope st)) (hl : ps.length = 5) (b : Body P w K mg base N qual st f k fun t => ∀ p0 p1 p2 p3 p4 h Q, g p0 p1 p2 p3 p4 h Q → t (ends Q) (dstart N [p0, p1, p2, p3, p4]) h) : DFn P w K mg base (k + 1) f fd ps (sp5 g) := by
  refine dfn_ok F S (fun ds h Q q => ?_) fun cdv A outer s H E hr => ?_
  · unfold sp5 at q
    split at q
    · exact hl.symm
    · exact q.elim
  · obtain ⟨t, ht, hq⟩ := b cdv A outer s H E hr
    refine ⟨t, ht, fun ds h Q q => ?_⟩
    unfold sp5 at q
    split at q
    · exact hq _ _ _ _ _ _ _ q
    · exact q.elim
end

/-! ### reckoning with the readings -/
theorem atI_n {α : Type} (xs : List α) (i : Nat) : atI xs (i : Int) = xs[i]? := by
  cases e : xs[i]? with
  | some v => exact atI_nat e
  | none =>
    have h : xs.length ≤ i := List.getElem?_eq_none_iff.mp e
    unfold atI ixN
    rw [if_pos (Int.natCast_nonneg i), if_neg (by omega)]
    rfl
theorem atI_0 {α : Type} (x : α) (xs : List α) : atI (x :: xs) 0 = some x := atI_n (x :: xs) 0
theorem atI_1 {α : Type} (x y : α) (xs : List α) : atI (x :: y :: xs) 1 = some y := atI_n (x :: y :: xs) 1
theorem atI_2 {α : Type} (x y z : α) (xs : List α) : atI (x :: y :: z :: xs) 2 = some z := atI_n (x :: y :: z :: xs) 2
theorem atI_3 {α : Type} (x y z u : α) (xs : List α) : atI (x :: y :: z :: u :: xs) 3 = some u := atI_n (x :: y :: z :: u :: xs) 3
theorem oAt_some {d : D} {k : D → Prop} : oAt (some d) k = k d := rfl
theorem lstAt_eq {h : DH} {a : Addr} {k : List D → Prop} {xs : List D} (e : h a = some (.lst xs)) : lstAt h a k = k xs := by unfold lstAt; rw [e]
theorem insAt_eq {h : DH} {a : Addr} {k : Addr → List (Str × D) → Prop} {C fs} (e : h a = some (.ins C fs)) : insAt h a k = k C fs := by unfold insAt; rw [e]
theorem dctAt_eq {h : DH} {a : Addr} {k : List (D × D) → Prop} {xs : List (D × D)} (e : h a = some (.dct xs)) : dctAt h a k = k xs := by unfold dctAt; rw [e]
theorem ite_tt {p : Prop} {q : Prop} : (if true = true then p else q) = p := if_pos rfl
theorem ite_ff {p : Prop} {q : Prop} : (if false = true then p else q) = q := if_neg Bool.false_ne_true

/-! ### comprehensions whose items leave the heap -/
/-- each item is told by f, kept by p; the heap is h0 with the new list -/
theorem lcGo_map {g : DTG} {tt : DTT} {te : DTE} {st : DH → Prop} {σ : DSt} {L : Addr} {h0 : DH} {P : DH → Prop} (f : D → D) (p : D → Bool) : ∀ (xs : List D) (acc : List D),
    (∀ acc, st (put h0 L (.lst acc))) →
    (∀ x ∈ xs, ∀ acc (R : D → DH → Prop) (R' : DH → Prop), (p x = true → R (f x) (put h0 L (.lst acc))) → (p x = false → R' (put h0 L (.lst acc))) →
      g x σ (put h0 L (.lst acc)) fun σ2 h2 => tt σ2 h2 fun b h3 => if b = true then te σ2 h3 R else R' h3) →
    acc.length + xs.length ≤ sizeLine → P (put h0 L (.lst (acc ++ (xs.filter p).map f))) → lcGo g tt te st σ L xs (put h0 L (.lst acc)) P
  | [], acc, hst, _, _, hP => ⟨hst acc, by simpa using hP⟩
  | x :: xs, acc, hst, hs, hz, hP => by
    refine ⟨hst acc, hs x List.mem_cons_self acc _ _ (fun hp => ?_) (fun hp => ?_)⟩
    · refine lstAt_of put_same ⟨by rw [List.length_cons] at hz; omega, ?_⟩
      have e : put (put h0 L (.lst acc)) L (.lst (acc ++ [f x])) = put h0 L (.lst (acc ++ [f x])) := by
        funext b; unfold put; split <;> rfl
      rw [e]
      refine lcGo_map f p xs (acc ++ [f x]) hst (fun y hy => hs y (List.mem_cons_of_mem _ hy)) (by rw [List.length_append, List.length_singleton]; rw [List.length_cons] at hz; omega) ?_
      rw [List.filter_cons, if_pos hp, List.map_cons] at hP
      rw [List.append_assoc]
      exact hP
    · refine lcGo_map f p xs acc hst (fun y hy => hs y (List.mem_cons_of_mem _ hy)) (by rw [List.length_cons] at hz; omega) ?_
      rw [List.filter_cons, if_neg (by rw [hp]; exact Bool.false_ne_true)] at hP
      exact hP
end DL
/-! D11: loops and comprehensions by what holds, for one name at a time. -/
namespace DL
open PySem PySem.Spec PyProof.Rows L2

theorem put_put {h : DH} {a : Addr} {o u : DO} : put (put h a o) a u = put h a u := by
  funext b; unfold put; split <;> rfl
theorem Sub.into {h h' : DH} {p : Addr} {o : DO} (s : Sub h h') (e : h' p = some o) : Sub (DL.put h p o) h' := fun a u q => by
  by_cases z : a = p
  · subst z; rw [put_same] at q; cases q; exact e
  · rw [put_ne z] at q; exact s a u q
theorem Sub.free {h h' : DH} {p : Addr} (s : Sub h h') (e : h' p = none) : h p = none := by
  cases q : h p with
  | none => rfl
  | some o => rw [s p o q] at e; cases e
theorem Sub.putN {h h' : DH} {p : Addr} {o : DO} (s : Sub h h') (e : h p = none) : Sub h (DL.put h' p o) := fun a u q => by
  rw [put_ne (fun z => by rw [z, e] at q; cases q)]; exact s a u q
theorem ne_none {h : DH} {a b : Addr} {o : DO} (e : h a = some o) (n : h b = none) : a ≠ b := fun z => by rw [z, n] at e; cases e
theorem ne_obj {h : DH} {a b : Addr} {o u : DO} (e : h a = some o) (n : h b = some u) (d : o ≠ u) : a ≠ b := fun z => by rw [z, n] at e; exact d (Option.some.inj e).symm
/-- for over a list of items, one name -/
theorem for_each {j : Nat} {tb : DTS} {st : DH → Prop} {E : DEnds} {σ : DSt} {h : DH} (I : Nat → DSt → DH → Prop) (xs : List D) (h0 : I 0 σ h) (hst : ∀ i σ h, I i σ h → st h)
    (step : ∀ i x σ h, xs[i]? = some x → I i σ h → ∀ nx : DSt → DH → Prop, (∀ σ h, I (i + 1) σ h → nx σ h) → tb { nx := nx, rt := E.rt, bk := E.nx, ct := nx } (σ.set j (some x)) h)
    (hend : ∀ σ h, I xs.length σ h → E.nx σ h) : forGo (gNm j) tb st E xs σ h := by
  have gen : ∀ (ys : List D) (i : Nat) (σ : DSt) (h : DH), i + ys.length = xs.length → (∀ k, ys[k]? = xs[i + k]?) → I i σ h → forGo (gNm j) tb st E ys σ h := by
    intro ys
    induction ys with
    | nil =>
      intro i σ h e _ hi
      have e' : i = xs.length := by simpa using e
      subst e'
      exact ⟨hst _ _ _ hi, hend _ _ hi⟩
    | cons y ys ih =>
      intro i σ h e q hi
      refine ⟨hst _ _ _ hi, ?_⟩
      have q0 : xs[i]? = some y := by have := q 0; simpa using this.symm
      exact step i y σ h q0 hi _ fun σ2 h2 i2 => ih (i + 1) σ2 h2 (by rw [List.length_cons] at e; omega) (fun k => by
        have := q (k + 1)
        rw [List.getElem?_cons_succ] at this
        rw [this]
        congr 1
        omega) i2
  exact gen xs 0 σ h (by simp) (fun k => by simp) h0
theorem nums_at {lo : Int} {n i : Nat} {x : D} (e : (numsFrom lo n)[i]? = some x) : i < n ∧ x = .int (lo + i) := by
  unfold numsFrom at e
  rw [List.getElem?_map] at e
  obtain ⟨c, ec, rfl⟩ := Option.map_eq_some_iff.mp e
  obtain ⟨hi, hc⟩ := List.getElem?_eq_some_iff.mp ec
  rw [List.length_range] at hi
  rw [List.getElem_range] at hc
  subst hc
  exact ⟨hi, rfl⟩
theorem nums_len (lo : Int) (n : Nat) : (numsFrom lo n).length = n := by unfold numsFrom; rw [List.length_map, List.length_range]
/-- for over a range -/
theorem for_nums {j : Nat} {tb : DTS} {E : DEnds} {σ : DSt} {h : DH} {lo : Int} {n : Nat} (I : Nat → DSt → DH → Prop) (h0 : I 0 σ h)
    (step : ∀ (i : Nat) σ h, i < n → I i σ h → ∀ nx : DSt → DH → Prop, (∀ σ h, I (i + 1) σ h → nx σ h) → tb { nx := nx, rt := E.rt, bk := E.nx, ct := nx } (σ.set j (some (.int (lo + i)))) h)
    (hend : ∀ σ h, I n σ h → E.nx σ h) : forGo (gNm j) tb (fun _ => True) E (numsFrom lo n) σ h := by
  refine for_each I _ h0 (fun _ _ _ _ => trivial) (fun i x σ h e hi nx hnx => ?_) (fun σ h hi => hend σ h (by rw [nums_len] at hi; exact hi))
  obtain ⟨hl, rfl⟩ := nums_at e
  exact step i σ h hl hi nx hnx
/-- two fors in a comprehension, nothing else changed -/
theorem lc2Go_map {j j1 : Nat} {ti1 : DTI} {te : DTE} {vs1 : List Nat} {st : DH → Prop} {σ : DSt} {L : Addr} {h0 : DH} {P : DH → Prop} (ys : D → List D) (f : D → D → D) : ∀ (xs : List D) (acc : List D),
    (∀ acc, st (put h0 L (.lst acc))) →
    (∀ x ∈ xs, ∀ acc (R : List D → (DH → Prop) → DH → Prop), R (ys x) (fun _ => True) (put h0 L (.lst acc)) → ti1 (σ.set j (some x)) (put h0 L (.lst acc)) R) →
    (∀ x ∈ xs, ∀ y ∈ ys x, ∀ acc (R : DK), R (f x y) (put h0 L (.lst acc)) → te ((dwipe (σ.set j (some x)) vs1).set j1 (some y)) (put h0 L (.lst acc)) R) →
    acc.length + (xs.flatMap fun x => (ys x).map (f x)).length ≤ sizeLine → P (put h0 L (.lst (acc ++ xs.flatMap fun x => (ys x).map (f x)))) →
    lc2Go (gNm j) dYes ti1 (gNm j1) dYes te vs1 st σ L xs (put h0 L (.lst acc)) P
  | [], acc, hst, _, _, _, hP => ⟨hst acc, by simpa using hP⟩
  | x :: xs, acc, hst, hti, hte, hz, hP => by
    refine ⟨hst acc, ?_⟩
    simp only [gNm, dYes, ite_tt]
    refine hti x List.mem_cons_self acc _ ?_
    rw [List.flatMap_cons, List.length_append, List.length_map] at hz
    have inner := lcGo_map (g := gNm j1) (tt := dYes) (te := te) (st := fun _ => True) (σ := dwipe (σ.set j (some x)) vs1) (L := L) (h0 := h0) (P := fun h5 => lc2Go (gNm j) dYes ti1 (gNm j1) dYes te vs1 st σ L xs h5 P) (f x) (fun _ => true) (ys x) acc
      (fun _ => trivial) (fun y hy acc R R' hR _ => by
        simp only [gNm, dYes, ite_tt]
        exact hte x List.mem_cons_self y hy acc R (hR rfl)) (by omega) (by
        rw [show (ys x).filter (fun _ => true) = ys x from List.filter_eq_self.mpr fun _ _ => rfl]
        refine lc2Go_map ys f xs _ hst (fun y hy => hti y (List.mem_cons_of_mem _ hy)) (fun y hy => hte y (List.mem_cons_of_mem _ hy)) ?_ ?_
        · rw [List.length_append, List.length_map]; omega
        · rw [List.flatMap_cons, ← List.append_assoc] at hP
          exact hP)
    exact inner
/-- a comprehension of one name, without a test, nothing else changed -/
theorem lc_pure {j : Nat} {te : DTE} {st : DH → Prop} {σ : DSt} {L : Addr} {h0 : DH} {P : DH → Prop} (f : D → D) (xs : List D) (hst : ∀ acc, st (put h0 L (.lst acc)))
    (hte : ∀ x ∈ xs, ∀ acc (R : DK), R (f x) (put h0 L (.lst acc)) → te (σ.set j (some x)) (put h0 L (.lst acc)) R) (hz : xs.length ≤ sizeLine) (hP : P (put h0 L (.lst (xs.map f)))) : lcGo (gNm j) dYes te st σ L xs (put h0 L (.lst [])) P := by
  refine lcGo_map f (fun _ => true) xs [] hst (fun x hx acc R R' hR _ => ?_) (by simpa using hz) ?_
  · simp only [gNm, dYes, ite_tt]
    exact hte x hx acc R (hR rfl)
  · rw [show xs.filter (fun _ => true) = xs from List.filter_eq_self.mpr fun _ _ => rfl]
    exact hP
/-- a comprehension of one name, without a test, its items changing what stands: I holds ahead of the i-th -/
theorem lc_each {j : Nat} {te : DTE} {st : DH → Prop} {σ : DSt} {L : Addr} {P : DH → Prop} (I : Nat → List D → DH → Prop) (xs : List D) {h : DH} (h0 : I 0 [] h) (hst : ∀ i acc h, I i acc h → st h)
    (step : ∀ i x acc h, xs[i]? = some x → I i acc h → te (σ.set j (some x)) h fun y h' => h' L = some (.lst acc) ∧ acc.length < sizeLine ∧ I (i + 1) (acc ++ [y]) (put h' L (.lst (acc ++ [y]))))
    (mono : ∀ σ h (R R' : DK), (∀ d h, R d h → R' d h) → te σ h R → te σ h R')
    (hend : ∀ acc h, I xs.length acc h → P h) : lcGo (gNm j) dYes te st σ L xs h P := by
  have gen : ∀ (ys : List D) (i : Nat) (acc : List D) (h : DH), i + ys.length = xs.length → (∀ k, ys[k]? = xs[i + k]?) → I i acc h → lcGo (gNm j) dYes te st σ L ys h P := by
    intro ys
    induction ys with
    | nil =>
      intro i acc h e _ hi
      have e' : i = xs.length := by simpa using e
      subst e'
      exact ⟨hst _ _ _ hi, hend _ _ hi⟩
    | cons y ys ih =>
      intro i acc h e q hi
      refine ⟨hst _ _ _ hi, ?_⟩
      simp only [gNm, dYes, ite_tt]
      have q0 : xs[i]? = some y := by have := q 0; simpa using this.symm
      refine mono _ _ _ _ (fun d h' z => ?_) (step i y acc h q0 hi)
      obtain ⟨z1, z2, z3⟩ := z
      refine lstAt_of z1 ⟨z2, ih (i + 1) _ _ (by rw [List.length_cons] at e; omega) (fun k => by
        have := q (k + 1)
        rw [List.getElem?_cons_succ] at this
        rw [this]
        congr 1
        omega) z3⟩
  exact gen xs 0 [] h (by simp) (fun k => by simp) h0
/-! ### dicts -/
theorem dlook_none {kvs : List (D × D)} {k : D} (h : k ∉ kvs.map (·.1)) : dlook kvs k = none := by
  induction kvs with
  | nil => rfl
  | cons p r ih =>
    rw [List.map_cons, List.mem_cons, not_or] at h
    rw [dlook_cons, if_neg (fun e => h.1 e.symm)]
    exact ih h.2
theorem dlook_at {kvs : List (D × D)} {k v : D} : ∀ {i : Nat}, (kvs.map (·.1)).Nodup → kvs[i]? = some (k, v) → dlook kvs k = some v := by
  induction kvs with
  | nil => intro i _ h; simp at h
  | cons p r ih =>
    intro i hn h
    rw [List.map_cons, List.nodup_cons] at hn
    rw [dlook_cons]
    cases i with
    | zero =>
      simp at h; subst h
      exact if_pos rfl
    | succ i =>
      rw [List.getElem?_cons_succ] at h
      rw [if_neg (fun e => hn.1 (by rw [e]; exact List.mem_map.mpr ⟨_, List.mem_of_getElem? h, rfl⟩))]
      exact ih hn.2 h
theorem dcGo_map {g : DTG} {tk tv : DTE} {st : DH → Prop} {σ : DSt} {L : Addr} {h0 : DH} {P : DH → Prop} (kf vf : D → D) : ∀ (xs : List D) (acc : List (D × D)),
    (∀ acc, st (put h0 L (.dct acc))) →
    (∀ x ∈ xs, ∀ acc (R : D → D → DH → Prop), R (kf x) (vf x) (put h0 L (.dct acc)) → g x σ (put h0 L (.dct acc)) fun σ2 h2 => tk σ2 h2 fun y h4 => tv σ2 h4 fun z h5 => R y z h5) →
    (∀ x ∈ xs, isKey (kf x)) → acc.length + xs.length ≤ sizeLine → (acc.map (·.1) ++ xs.map kf).Nodup →
    P (put h0 L (.dct (acc ++ xs.map fun x => (kf x, vf x)))) → (∀ x σ h (R R' : DSt → DH → Prop), (∀ σ h, R σ h → R' σ h) → g x σ h R → g x σ h R') → dcGo g dYes tk tv st σ L xs (put h0 L (.dct acc)) P
  | [], acc, hst, _, _, _, _, hP, _ => ⟨hst acc, by simpa using hP⟩
  | x :: xs, acc, hst, hs, hk, hz, hn, hP, mono => by
    refine ⟨hst acc, mono _ _ _ _ _ (fun σ2 h2 q => ?_) (hs x List.mem_cons_self acc (fun y z h5 => dctAt h5 L fun kvs => (isKey y ∧ kvs.length < sizeLine) ∧ dcGo g dYes tk tv st σ L xs (put h5 L (.dct (dput kvs y z))) P) ?_)⟩
    · simp only [dYes, ite_tt]
      exact q
    · rw [List.length_cons] at hz
      refine dctAt_of put_same ⟨⟨hk x List.mem_cons_self, by omega⟩, ?_⟩
      have nk : kf x ∉ acc.map (·.1) := fun z => by
        rw [List.map_cons, List.nodup_append] at hn
        exact hn.2.2 _ z _ List.mem_cons_self rfl
      rw [put_put, dput_new (dlook_none nk)]
      refine dcGo_map kf vf xs _ hst (fun y hy => hs y (List.mem_cons_of_mem _ hy)) (fun y hy => hk y (List.mem_cons_of_mem _ hy)) (by rw [List.length_append, List.length_singleton]; omega) ?_ ?_ mono
      · rw [List.map_append, List.append_assoc]
        exact hn
      · rw [List.map_cons] at hP
        rw [List.append_assoc]
        exact hP
/-! ### attributes -/
theorem fld_at {K : PySem.W.Frag} {h : DH} {o C : Addr} {f : Str} {fs : List (Str × D)} {d : D} {R : D → Prop} (e : h o = some (.ins C fs)) (hA : HasA K C f) (l : fs.lookup f = some d) (q : R d) : insAt h o fun C fs => HasA K C f ∧ oAt (fs.lookup f) R :=
  insAt_of e ⟨hA, oAt_of l q⟩
theorem lkS {f g : Str} {d : D} {r : List (Str × D)} (h : (f == g) = true) : List.lookup f ((g, d) :: r) = some d := by rw [List.lookup_cons, h]
theorem lkN {f g : Str} {d : D} {r : List (Str × D)} (h : (f == g) = false) : List.lookup f ((g, d) :: r) = List.lookup f r := by rw [List.lookup_cons, h]
/-! ### targets are monotone -/
def MonoG (g : DTG) : Prop := ∀ x σ h (R R' : DSt → DH → Prop), (∀ σ h, R σ h → R' σ h) → g x σ h R → g x σ h R'
def MonoGs (g : DTGs) : Prop := ∀ x σ h (R R' : DSt → DH → Prop), (∀ σ h, R σ h → R' σ h) → g x σ h R → g x σ h R'
theorem mono_nm (i : Nat) : MonoG (gNm i) := fun _ _ _ _ _ m z => m _ _ z
theorem mono_nl : MonoGs gNl := fun x σ h R R' m z => by
  cases x with
  | nil => exact m _ _ z
  | cons _ _ => exact z.elim
theorem mono_cn {t : DTG} {u : DTGs} (a : MonoG t) (b : MonoGs u) : MonoGs (gCn t u) := fun x σ h R R' m z => by
  cases x with
  | nil => exact z.elim
  | cons d r => exact a d σ h _ _ (fun σ2 h2 z2 => b r σ2 h2 R R' m z2) z
theorem mono_tp {n : Nat} {t : DTGs} (a : MonoGs t) : MonoG (gTp n t) := fun x σ h R R' m z => by
  cases x with
  | tup ds => exact ⟨z.1, a ds σ h R R' m z.2⟩
  | _ => exact z.elim
theorem key_str (x : Str) : isKey (.str x) := ⟨.text x, rfl, Nat.zero_le _⟩
end DL
/-! D12: steps by what holds between them; cuts; the drawing pool. -/
namespace DL
open PySem PySem.Spec PyProof.Rows L2

/-- all but what stands at k stays -/
def But (k : Addr) (h h' : DH) : Prop := ∀ a o, a ≠ k → h a = some o → h' a = some o
theorem But.refl (k : Addr) (h : DH) : But k h h := fun _ _ _ e => e
theorem But.trans {k : Addr} {a b c : DH} (x : But k a b) (y : But k b c) : But k a c := fun p o n e => y p o n (x p o n e)
theorem But.of {k : Addr} {a b : DH} (x : Sub a b) : But k a b := fun p o _ e => x p o e
theorem But.put {k : Addr} {h : DH} {o : DO} : But k h (DL.put h k o) := fun a u n e => by rw [put_ne n]; exact e
theorem But.wr {k : Addr} {h h' : DH} {o : DO} (b : But k h h') : But k h (DL.put h' k o) := b.trans But.put
/-- a fresh thing may change -/
theorem But.fresh {k L : Addr} {h h' : DH} {o : DO} (b : But k h h') (n : h L = none) : But k h (DL.put h' L o) := fun a u hn e => by
  rw [put_ne (fun z => by rw [z, n] at e; cases e)]; exact b a u hn e
theorem But.into {k p : Addr} {h h' : DH} {o : DO} (b : But k h h') (e : h' p = some o) : But k (DL.put h p o) h' := fun a u hn q => by
  by_cases z : a = p
  · subst z; rw [put_same] at q; cases q; exact e
  · rw [put_ne z] at q; exact b a u hn q
theorem But.free {k p : Addr} {h h' : DH} (b : But k h h') (n : p ≠ k) (e : h' p = none) : h p = none := by
  cases q : h p with
  | none => rfl
  | some o => rw [b p o n q] at e; cases e
theorem But.over {k L : Addr} {h h1 h2 : DH} (b : But k h h1) (c : But L h1 h2) (n : h L = none) : But k h h2 := fun a u hn e => c a u (fun z => by rw [z, n] at e; cases e) (b a u hn e)

/-- a step, and what holds behind it -/
theorem seq_by {a b : DTS} {E : DEnds} {σ : DSt} {h : DH} (I : DSt → DH → Prop) (h2 : ∀ σ h, I σ h → b E σ h) (h1 : ∀ nx : DSt → DH → Prop, (∀ σ h, I σ h → nx σ h) → a { E with nx := nx } σ h) : sSeq a b E σ h := h1 _ h2
/-- a comprehension of one name by what holds -/
theorem lc_inv {j : Nat} {tt : DTT} {te : DTE} {st : DH → Prop} {σ : DSt} {L : Addr} {P : DH → Prop} (I : Nat → List D → DH → Prop) (xs : List D) {h : DH} (hL : h L = some (.lst [])) (h0 : I 0 [] h) (hst : ∀ i acc h, h L = some (.lst acc) → I i acc h → st h) (hz : xs.length ≤ sizeLine)
    (step : ∀ i x acc h, xs[i]? = some x → acc.length ≤ i → h L = some (.lst acc) → I i acc h → ∀ (R : DK) (R' : DH → Prop),
      (∀ y h', h' L = some (.lst acc) → I (i + 1) (acc ++ [y]) (put h' L (.lst (acc ++ [y]))) → R y h') → (∀ h', h' L = some (.lst acc) → I (i + 1) acc h' → R' h') →
      tt (σ.set j (some x)) h fun b h3 => if b = true then te (σ.set j (some x)) h3 R else R' h3)
    (hend : ∀ acc h, acc.length ≤ xs.length → h L = some (.lst acc) → I xs.length acc h → P h) : lcGo (gNm j) tt te st σ L xs h P := by
  have gen : ∀ (ys : List D) (i : Nat) (acc : List D) (h : DH), i + ys.length = xs.length → (∀ k, ys[k]? = xs[i + k]?) → acc.length ≤ i → h L = some (.lst acc) → I i acc h → lcGo (gNm j) tt te st σ L ys h P := by
    intro ys
    induction ys with
    | nil =>
      intro i acc h e _ hl eL hi
      have e' : i = xs.length := by simpa using e
      subst e'
      exact ⟨hst _ _ _ eL hi, hend _ _ hl eL hi⟩
    | cons y ys ih =>
      intro i acc h e q hl eL hi
      refine ⟨hst _ _ _ eL hi, ?_⟩
      have q0 : xs[i]? = some y := by have := q 0; simpa using this.symm
      have q1 : ∀ k, ys[k]? = xs[i + 1 + k]? := fun k => by
        have := q (k + 1)
        rw [List.getElem?_cons_succ] at this
        rw [this]
        congr 1
        omega
      rw [List.length_cons] at e
      exact step i y acc h q0 hl eL hi _ _ (fun y h' eL' i' => lstAt_of eL' ⟨by omega, ih (i + 1) _ _ (by omega) q1 (by rw [List.length_append, List.length_singleton]; omega) put_same i'⟩)
        (fun h' eL' i' => ih (i + 1) _ _ (by omega) q1 (by omega) eL' i')
  exact gen xs 0 [] h (by simp) (fun k => by simp) (Nat.le_refl _) hL h0
/-- for over a list of items, any target -/
theorem for_eachG {g : DTG} {tb : DTS} {st : DH → Prop} {E : DEnds} {σ : DSt} {h : DH} (I : Nat → DSt → DH → Prop) (xs : List D) (h0 : I 0 σ h) (hst : ∀ i σ h, I i σ h → st h)
    (step : ∀ i x σ h, xs[i]? = some x → I i σ h → ∀ nx : DSt → DH → Prop, (∀ σ h, I (i + 1) σ h → nx σ h) → g x σ h fun σ1 h1 => tb { nx := nx, rt := E.rt, bk := E.nx, ct := nx } σ1 h1)
    (hend : ∀ σ h, I xs.length σ h → E.nx σ h) : forGo g tb st E xs σ h := by
  have gen : ∀ (ys : List D) (i : Nat) (σ : DSt) (h : DH), i + ys.length = xs.length → (∀ k, ys[k]? = xs[i + k]?) → I i σ h → forGo g tb st E ys σ h := by
    intro ys
    induction ys with
    | nil =>
      intro i σ h e _ hi
      have e' : i = xs.length := by simpa using e
      subst e'
      exact ⟨hst _ _ _ hi, hend _ _ hi⟩
    | cons y ys ih =>
      intro i σ h e q hi
      refine ⟨hst _ _ _ hi, ?_⟩
      have q0 : xs[i]? = some y := by have := q 0; simpa using this.symm
      exact step i y σ h q0 hi _ fun σ2 h2 i2 => ih (i + 1) σ2 h2 (by rw [List.length_cons] at e; omega) (fun k => by
        have := q (k + 1)
        rw [List.getElem?_cons_succ] at this
        rw [this]
        congr 1
        omega) i2
  exact gen xs 0 σ h (by simp) (fun k => by simp) h0
/-! ### cuts -/
theorem cut_one (xs : List D) : cutD xs (some 1) none = xs.tail := by
  unfold cutD
  rw [show HT.sIx xs.length 0 (some 1) = min 1 xs.length from HT.sIx_nat xs.length 0 1, HT.sIx_none]
  cases xs with
  | nil => rfl
  | cons x r =>
    rw [show min 1 (x :: r).length = 1 by rw [List.length_cons]; omega]
    show List.take ((x :: r).length - 1) r = r
    rw [List.length_cons, Nat.add_sub_cancel]
    exact List.take_length
theorem cut_to (xs : List D) (n : Nat) : cutD xs none (some (n : Int)) = xs.take n := by
  unfold cutD
  rw [HT.sIx_none, HT.sIx_nat, Nat.sub_zero, List.drop_zero]
  by_cases h : n ≤ xs.length
  · rw [Nat.min_eq_left h]
  · rw [Nat.min_eq_right (by omega), List.take_length, List.take_of_length_le (by omega)]
theorem cut_2 (xs : List D) : cutD xs none (some 2) = xs.take 2 := cut_to xs 2
/-! ### joining signs -/
def chS (c : Nat) : Str := ⟨#[c]⟩
theorem joinL_ones : ∀ cs : List Nat, TL.joinL [] (cs.map fun c => [c]) = cs
  | [] => rfl
  | [c] => rfl
  | c :: d :: r => by
    have := joinL_ones (d :: r)
    rw [List.map_cons] at this
    show [c] ++ ([] ++ TL.joinL [] ([d] :: r.map fun c => [c])) = _
    rw [this]
    rfl
theorem join_chars (cs : List Nat) : (Txt.join ("" : Str) (cs.map chS)).cps.toList = cs := by
  have e := TL.tl_join ("" : Str) (cs.map chS)
  rw [List.map_map] at e
  rw [TL.join_eq]
  refine Eq.trans e ?_
  exact joinL_ones cs
theorem ints_tail (gs : List Int) : (gs.map D.int).tail = (gs.tail).map D.int := by cases gs <;> rfl
theorem ints_at {gs : List Int} {i : Nat} (h : i < gs.length) : atI (gs.map D.int) (i : Int) = some (.int gs[i]) := by
  rw [atI_n, List.getElem?_map, List.getElem?_eq_getElem h]
  rfl
/-! ### the drawing pool: at p, apart from the addresses A -/
def PoolAt (h : DH) (p : Addr) (A : List Addr) : Prop := ∃ (ga sa : Addr) (gs ss : List Int) (x n : Int), h p = some (.lst [.ref ga, .ref sa, .int x, .int n]) ∧ h ga = some (.lst (gs.map .int)) ∧ h sa = some (.lst (ss.map .int)) ∧
  ga ≠ p ∧ sa ≠ p ∧ p ∉ A ∧ ga ∉ A ∧ sa ∉ A ∧ ss.length ≤ 63 ∧ ∀ a ∈ A, h a ≠ none
theorem PoolAt.put {h : DH} {p a : Addr} {A : List Addr} {o : DO} (P : PoolAt h p A) (ha : a ∈ A) : PoolAt (DL.put h a o) p A := by
  obtain ⟨ga, sa, gs, ss, x, n, e1, e2, e3, n1, n2, n3, n4, n5, l, live⟩ := P
  refine ⟨ga, sa, gs, ss, x, n, ?_, ?_, ?_, n1, n2, n3, n4, n5, l, fun b hb => ?_⟩
  · rw [put_ne (fun z => n3 (by rw [z]; exact ha))]; exact e1
  · rw [put_ne (fun z => n4 (by rw [z]; exact ha))]; exact e2
  · rw [put_ne (fun z => n5 (by rw [z]; exact ha))]; exact e3
  · by_cases z : b = a
    · rw [z, put_same]; exact fun y => by cases y
    · rw [put_ne z]; exact live b hb
theorem PoolAt.sub {h h' : DH} {p : Addr} {A : List Addr} (P : PoolAt h p A) (s : Sub h h') : PoolAt h' p A := by
  obtain ⟨ga, sa, gs, ss, x, n, e1, e2, e3, n1, n2, n3, n4, n5, l, live⟩ := P
  refine ⟨ga, sa, gs, ss, x, n, s _ _ e1, s _ _ e2, s _ _ e3, n1, n2, n3, n4, n5, l, fun b hb => ?_⟩
  cases q : h b with
  | none => exact (live b hb q).elim
  | some o => rw [s b o q]; exact fun y => by cases y
theorem PoolAt.but {h h' : DH} {p k : Addr} {A : List Addr} (P : PoolAt h p A) (s : But k h h') (hk : ∀ xs, h k ≠ some (.lst xs)) (hl : h' k ≠ none) : PoolAt h' p A := by
  obtain ⟨ga, sa, gs, ss, x, n, e1, e2, e3, n1, n2, n3, n4, n5, l, live⟩ := P
  refine ⟨ga, sa, gs, ss, x, n, s _ _ (fun z => hk _ (by rw [← z]; exact e1)) e1, s _ _ (fun z => hk _ (by rw [← z]; exact e2)) e2, s _ _ (fun z => hk _ (by rw [← z]; exact e3)) e3, n1, n2, n3, n4, n5, l, fun b hb => ?_⟩
  by_cases z : b = k
  · rw [z]; exact hl
  · cases q : h b with
    | none => exact (live b hb q).elim
    | some o => rw [s b o z q]; exact fun y => by cases y
theorem PoolAt.butA {h h' : DH} {p k : Addr} {A : List Addr} (P : PoolAt h p A) (s : But k h h') (hk : k ∈ A) (hl : h' k ≠ none) : PoolAt h' p A := by
  obtain ⟨ga, sa, gs, ss, x, n, e1, e2, e3, n1, n2, n3, n4, n5, l, live⟩ := P
  refine ⟨ga, sa, gs, ss, x, n, s _ _ (fun z => n3 (by rw [z]; exact hk)) e1, s _ _ (fun z => n4 (by rw [z]; exact hk)) e2, s _ _ (fun z => n5 (by rw [z]; exact hk)) e3, n1, n2, n3, n4, n5, l, fun b hb => ?_⟩
  by_cases z : b = k
  · rw [z]; exact hl
  · cases q : h b with
    | none => exact (live b hb q).elim
    | some o => rw [s b o z q]; exact fun y => by cases y
theorem PoolAt.new {h : DH} {p L : Addr} {A : List Addr} {o : DO} (P : PoolAt h p A) (nL : h L = none) : PoolAt (DL.put h L o) p (L :: A) := by
  have s : Sub h (DL.put h L o) := Sub.new nL
  obtain ⟨ga, sa, gs, ss, x, n, e1, e2, e3, n1, n2, n3, n4, n5, l, live⟩ := P
  have ne : ∀ {a : Addr} {u : DO}, h a = some u → a ≠ L := fun e z => by rw [z, nL] at e; cases e
  refine ⟨ga, sa, gs, ss, x, n, s _ _ e1, s _ _ e2, s _ _ e3, n1, n2, ?_, ?_, ?_, l, fun b hb => ?_⟩
  · exact fun z => (List.mem_cons.mp z).elim (ne e1) n3
  · exact fun z => (List.mem_cons.mp z).elim (ne e2) n4
  · exact fun z => (List.mem_cons.mp z).elim (ne e3) n5
  · rcases List.mem_cons.mp hb with z | z
    · rw [z, put_same]; exact fun y => by cases y
    · cases q : h b with
      | none => exact (live b z q).elim
      | some o => rw [s b o q]; exact fun y => by cases y
theorem PoolAt.less {h : DH} {p : Addr} {A B : List Addr} (P : PoolAt h p A) (s : ∀ a ∈ B, a ∈ A) : PoolAt h p B := by
  obtain ⟨ga, sa, gs, ss, x, n, e1, e2, e3, n1, n2, n3, n4, n5, l, live⟩ := P
  exact ⟨ga, sa, gs, ss, x, n, e1, e2, e3, n1, n2, fun z => n3 (s _ z), fun z => n4 (s _ z), fun z => n5 (s _ z), l, fun b hb => live b (s b hb)⟩
theorem PoolAt.drop {h : DH} {p L : Addr} {A : List Addr} (P : PoolAt h p (L :: A)) : PoolAt h p A := P.less fun _ h => List.mem_cons_of_mem _ h
theorem PoolAt.ne {h : DH} {p L : Addr} {A : List Addr} (P : PoolAt h p A) (hL : L ∈ A) : L ≠ p := by
  obtain ⟨ga, sa, gs, ss, x, n, e1, e2, e3, n1, n2, n3, n4, n5, l, live⟩ := P
  exact fun z => n3 (by rw [← z]; exact hL)
theorem PoolAt.live {h : DH} {p : Addr} {A : List Addr} (P : PoolAt h p A) : h p ≠ none := by
  obtain ⟨ga, sa, gs, ss, x, n, e1, _⟩ := P
  rw [e1]; exact fun y => by cases y
theorem PoolAt.neN {h : DH} {p L : Addr} {A : List Addr} (P : PoolAt h p A) (hL : h L = none) : L ≠ p := fun z => P.live (by rw [← z]; exact hL)
theorem PoolAt.lst {h : DH} {p : Addr} {A : List Addr} (P : PoolAt h p A) : ∃ xs, h p = some (.lst xs) := by
  obtain ⟨ga, sa, gs, ss, x, n, e1, _⟩ := P
  exact ⟨_, e1⟩
/-- drawing a number below m -/
def drawSp : DSp := sp2 fun a b h P => ∃ (p : Addr) (A : List Addr) (m : Nat), a = .ref p ∧ b = .int m ∧ 0 < m ∧ m ≤ 1000000 ∧ PoolAt h p A ∧ ∀ (r : Nat) h', r < m → PoolAt h' p A → But p h h' → P (.int r) h'
/-- picking one of some things -/
def pickSp : DSp := sp2 fun a b h P => ∃ (p : Addr) (A : List Addr) (q : Addr) (xs : List D), a = .ref p ∧ b = .ref q ∧ q ≠ p ∧ h q = some (.lst xs) ∧ 0 < xs.length ∧ xs.length ≤ 1000000 ∧ PoolAt h p A ∧ ∀ x h', x ∈ xs → PoolAt h' p A → But p h h' → P x h'
/-- making the pool -/
def poolSp : DSp := sp1 fun a h P => ∃ ns : List Int, a = .rol (ns.map .int) ∧ ns.length ≤ 63 ∧ ∀ p h', PoolAt h' p [] → Sub h h' → P (.ref p) h'
end DL
/-! D13: sums, bits, least of two, members of tuples, backwards, ranges as values, two lists side by side. -/
namespace DL
open PySem PySem.Spec PyProof.Rows L2

section
variable {X : Cx} {tg e : Expr} {te : DTE} {pos : Pos}
def dSum : DRC
  | [d], h, P => seqAt d h fun xs => ∃ ns, allI xs = some ns ∧ P (.int ns.sum) h
  | _, _, _ => False
theorem call_dSum (hc : X.calm = true) : DCall X (.builtin "sum") dSum := by
  intro pins s σ H xs us Q I rx q
  obtain ⟨ds, h, P, r, rh, q, f⟩ := q
  unfold dSum at q
  split at q
  · obtain ⟨v, rfl, rv⟩ := r.one
    obtain ⟨a, vs, ys, rfl, g1, t1, ns, e2, q⟩ := seq_of rh rv q
    rw [allI_vs e2 t1] at g1
    exact cr_sum hc pins s σ H _ us Q I rx ⟨_, ns, rfl, g1, f _ _ _ _ q (Keeps.refl _) rh rfl⟩
  · exact q.elim
def dMin : DRC
  | [.int i, .int j], h, P => P (.int (if j < i then j else i)) h
  | _, _, _ => False
theorem call_dMin (hc : X.calm = true) : DCall X (.builtin "min") dMin := by
  intro pins s σ H xs us Q I rx q
  obtain ⟨ds, h, P, r, rh, q, f⟩ := q
  unfold dMin at q
  split at q
  · obtain ⟨v, v', rfl, rv, rv'⟩ := r.two
    cases rv
    cases rv'
    exact call_min2 hc pins s σ H _ us Q I rx ⟨_, _, rfl, f _ _ _ _ q (Keeps.refl _) rh rfl⟩
  · exact q.elim
abbrev dShl : DR2 := dI2 CPow fun i j => .int (i * 2 ^ j.toNat)
abbrev dBand : DR2 := dI2 CTrue fun i j => .int (Builtin.bitAnd i j)
theorem op_dShl : DOp X (binaryOp .LShift) dShl := op_dI op_shl
theorem op_dBand : DOp X (binaryOp .BitAnd) dBand := op_dI0 op_and

/-! ### members of a tuple, of a list -/
theorem inV_ints (i : Int) (ns : List Int) : inV (.int i) (ns.map V.int) = decide (i ∈ ns) := by
  unfold inV
  rw [Bool.eq_iff_iff, List.any_eq_true, decide_eq_true_iff]
  constructor
  · rintro ⟨y, hy, e⟩
    obtain ⟨n, hn, rfl⟩ := List.mem_map.mp hy
    have e2 : (n == i) = true := e
    rw [← eq_of_beq e2]
    exact hn
  · intro h
    exact ⟨.int i, List.mem_map.mpr ⟨i, h, rfl⟩, by show (i == i) = true; exact beq_self_eq_true i⟩
theorem inV_strs (i : Str) (ns : List Str) : inV (.str i) (ns.map V.str) = decide (i ∈ ns) := by
  unfold inV
  rw [Bool.eq_iff_iff, List.any_eq_true, decide_eq_true_iff]
  constructor
  · rintro ⟨y, hy, e⟩
    obtain ⟨n, hn, rfl⟩ := List.mem_map.mp hy
    have e2 : (n == i) = true := e
    rw [← eq_of_beq e2]
    exact hn
  · intro h
    exact ⟨.str i, List.mem_map.mpr ⟨i, h, rfl⟩, by show (i == i) = true; exact beq_self_eq_true i⟩
theorem flat_ints (ns : List Int) : (ns.map V.int).all flatV = true := List.all_eq_true.mpr fun x hx => by obtain ⟨n, _, rfl⟩ := List.mem_map.mp hx; rfl
theorem flat_strs (ns : List Str) : (ns.map V.str).all flatV = true := List.all_eq_true.mpr fun x hx => by obtain ⟨n, _, rfl⟩ := List.mem_map.mp hx; rfl
def memD (x : D) (ys : List D) (k : Bool → Prop) : Prop := match x with
  | .int i => ∃ ns, allI ys = some ns ∧ k (decide (i ∈ ns))
  | .str i => ∃ ns, allS ys = some ns ∧ k (decide (i ∈ ns))
  | _ => False
def dMem : DR2 := fun x y h P => match y with
  | .tup ys => memD x ys fun b => P (.bl b) h
  | _ => False
def dNotMem : DR2 := fun x y h P => match y with
  | .tup ys => memD x ys fun b => P (.bl (!b)) h
  | _ => False
theorem op_dMem : DOp X (compareOp .In) dMem := by
  intro pins s σ H x y v u Q I rx ry q
  obtain ⟨dx, dy, h, P, r1, r2, rh, q, f⟩ := q
  unfold dMem at q
  split at q
  · obtain ⟨a, vs, rfl, s1, t1⟩ := r2
    unfold memD at q
    split at q
    · obtain ⟨ns, e, q⟩ := q
      cases r1
      rw [allI_vs e t1] at s1
      exact op_in_seq pins s σ H _ _ v u Q I rx ry ⟨a, _, rfl, .inr s1, rfl, flat_ints _, by rw [if_neg Bool.false_ne_true, inV_ints]; exact f _ _ _ _ q (Keeps.refl _) rh rfl⟩
    · obtain ⟨ns, e, q⟩ := q
      cases r1
      rw [allS_vs e t1] at s1
      exact op_in_seq pins s σ H _ _ v u Q I rx ry ⟨a, _, rfl, .inr s1, rfl, flat_strs _, by rw [if_neg Bool.false_ne_true, inV_strs]; exact f _ _ _ _ q (Keeps.refl _) rh rfl⟩
    · exact q.elim
  · exact q.elim
theorem op_dNotMem : DOp X (compareOp .NotIn) dNotMem := by
  intro pins s σ H x y v u Q I rx ry q
  obtain ⟨dx, dy, h, P, r1, r2, rh, q, f⟩ := q
  unfold dNotMem at q
  split at q
  · obtain ⟨a, vs, rfl, s1, t1⟩ := r2
    unfold memD at q
    split at q
    · obtain ⟨ns, e, q⟩ := q
      cases r1
      rw [allI_vs e t1] at s1
      exact op_notIn_seq pins s σ H _ _ v u Q I rx ry ⟨a, _, rfl, .inr s1, rfl, flat_ints _, by rw [if_pos rfl, inV_ints]; exact f _ _ _ _ q (Keeps.refl _) rh rfl⟩
    · obtain ⟨ns, e, q⟩ := q
      cases r1
      rw [allS_vs e t1] at s1
      exact op_notIn_seq pins s σ H _ _ v u Q I rx ry ⟨a, _, rfl, .inr s1, rfl, flat_strs _, by rw [if_pos rfl, inV_strs]; exact f _ _ _ _ q (Keeps.refl _) rh rfl⟩
    · exact q.elim
  · exact q.elim

/-! ### a range as a value -/
def dRange : DRC
  | [.int j], h, P => P (.rng 0 j) h
  | _, _, _ => False
theorem call_dRange : DCall X (.type "range") dRange := by
  intro pins s σ H xs us Q I rx q
  obtain ⟨ds, h, P, r, rh, q, f⟩ := q
  unfold dRange at q
  split at q
  · obtain ⟨v, rfl, rv⟩ := r.one
    cases rv
    obtain ⟨u, rfl, ru⟩ := vals1 rx
    obtain ⟨t, rfl⟩ := ru
    rename_i j
    have nf : H s.heap.objs.size = none := I.hok.fresh (Nat.le_refl _)
    refine call_range_1 ⟨.ref s.heap.objs.size, upd H s.heap.objs.size (.rng 0 j), I.laid (fun b o e => Heap.get?_push_of_some _ e) (Nat.le_refl _) ?_, rfl, ?_⟩
    · exact ⟨_, _, _, Heap.get?_push_size _ rfl⟩
    · exact f _ _ _ _ q (Keeps.new nf) (rh.hide (rh.free nf) (Keeps.new nf)) ⟨_, rfl, upd_same⟩
  · exact q.elim
/-- a range that stands, walked -/
def iRg (te : DTE) : DTI := fun σ h P => te σ h fun d h1 => match d with
  | .rng lo hi => (-(2 ^ 62) ≤ lo ∧ lo < 2 ^ 62 ∧ -(2 ^ 62) ≤ hi ∧ hi < 2 ^ 62) ∧ P (numsFrom lo (hi - lo).toNat) (fun _ => True) h1
  | _ => False
theorem di_rng (he : DE X e te) : DI X tg e (iRg te) := by
  refine ⟨⟨fun pins s σ H R I q0 => ?_⟩⟩
  obtain ⟨dσ, h, P, rs, rh, q, f⟩ := q0
  refine thn (he.pe.run pins s σ H (fun x H1 => ∃ d h1, RD X.K X.w H1 d x ∧ RH X.K X.w H1 h1 ∧ Keeps H H1 ∧ match d with
    | .rng lo hi => (-(2 ^ 62) ≤ lo ∧ lo < 2 ^ 62 ∧ -(2 ^ 62) ≤ hi ∧ hi < 2 ^ 62) ∧ P (numsFrom lo (hi - lo).toNat) (fun _ => True) h1
    | _ => False) I ⟨dσ, h, _, rs, rh, q, fun d h1 v H1 q1 k1 rh1 r1 => ⟨d, h1, r1, rh1, k1, q1⟩⟩) fun v s1 ⟨x, H1, I1, r1, d, h1, rd, rh1, k1, q1⟩ => ?_
  split at q1
  · rename_i lo hi
    obtain ⟨a, rfl, ea⟩ := rd
    cases r1
    obtain ⟨t, u, v, ho⟩ := I1.hok a _ ea
    obtain ⟨b1, b2, b3, b4⟩ := q1.1
    refine wpAny_pyIter_range (show IsRange s1.heap a lo hi 1 t u v from ho) (small_one b1 b2 b3 b4) ?_
    refine ⟨s1.heap.objs.size, [s1.heap.objs.size], _, Itr lo (hi - lo).toNat, H1, rfl, I1.kept (t' := s1.toks) fun b o e => Heap.get?_push_of_some _ e, turn_range _ lo (hi - lo).toNat, ?_, fun b hb => ?_, ?_⟩
    · have e1 : lo + ((0 : Nat) : Int) * 1 = lo := by simp
      have e2 : (((hi - lo).toNat : Nat) : Int) - ((0 : Nat) : Int) = Builtin.Range.rangeSize lo hi 1 := by rw [rangeSize_one]; split <;> omega
      show IsRangeIter _ _ (lo + ((0 : Nat) : Int) * 1) ((((hi - lo).toNat : Nat) : Int) - ((0 : Nat) : Int)) 1
      rw [e1, e2]
      exact Heap.get?_push_size _ rfl
    · obtain rfl : b = s1.heap.objs.size := by simpa using hb
      exact I1.fpOk (Nat.le_refl _) (I1.hok.fresh (Nat.le_refl _))
    · exact f _ _ _ _ _ q1.2 k1 rh1 itr_ok
  · exact q1.elim

/-! ### backwards -/
def dRev (te : DTE) : DTE := fun σ h P => te σ h fun d h1 => seqAt d h1 fun xs => fresh h1 (.lst xs.reverse) fun p h2 => P (.ref p) h2
theorem RDs.reverse {K : PySem.W.Frag} {ω : World} {H : Hp} : ∀ {ds : List D} {vs : List V}, RDs K ω H ds vs → RDs K ω H ds.reverse vs.reverse
  | [], _, h => by rw [RDs.nil_ h]; exact rfl
  | d :: ds, _, ⟨v, r, e, h1, h2⟩ => by
    rw [e, List.reverse_cons, List.reverse_cons]
    exact RDs.append (RDs.reverse h2) (RDs.cons h1 (show RDs K ω H [] [] from rfl))
theorem de_rev {k : Nat} {p1 p2 p3 : Pos} (he : DE X e te) : DE X (.Subscript e (.Slice none none (some (.UnaryOp .USub (.Constant (.int 1) k p1) p2)) p3) pos) (dRev te) := by
  refine ⟨peImp (pe_revL he.pe) ?_⟩
  rintro σ H Q ⟨dσ, h, P, rs, rh, q, f⟩
  refine ⟨dσ, h, _, rs, rh, q, fun d h1 v H1 q1 k1 rh1 r1 => ?_⟩
  obtain ⟨a, vs, xs, rfl, g1, t1, q1⟩ := seq_of rh1 r1 q1
  refine ⟨_, vs, rfl, g1, fun p np => ?_⟩
  have n := RH.newL rh1 np (RDs.reverse t1)
  exact f _ _ _ _ (q1 p (rh1.free np)) (k1.trans n.1) n.2 rfl

/-! ### two lists side by side -/
def pairs (xs ys : List D) : List D := xs.zipWith (fun x y => .tup [x, y]) ys
theorem pairs_get {xs ys : List D} {i : Nat} {d : D} (e : (pairs xs ys)[i]? = some d) : ∃ x y, xs[i]? = some x ∧ ys[i]? = some y ∧ d = .tup [x, y] := by
  unfold pairs at e
  rw [List.getElem?_zipWith] at e
  cases ex : xs[i]? with
  | none => rw [ex] at e; cases e
  | some x =>
    cases ey : ys[i]? with
    | none => rw [ex, ey] at e; cases e
    | some y => rw [ex, ey] at e; cases e; exact ⟨x, y, rfl, rfl, rfl⟩
theorem pairs_length (xs ys : List D) : (pairs xs ys).length = min xs.length ys.length := by unfold pairs; rw [List.length_zipWith]
def iZp (ta : DTA) : DTI := fun σ h P => ta σ h fun ds h1 => match ds with
  | [.tup xs, .tup ys] => P (pairs xs ys) (fun _ => True) h1
  | [d, d'] => seqAt d h1 fun xs => seqAt d' h1 fun ys => P (pairs xs ys) (fun h => seqSt d xs h ∧ seqSt d' ys h) h1
  | _ => False
theorem di_zip {e2 : Expr} {ta : DTA} {p tpos : Pos} {elts : List Expr} {kk : Nat} (hg : Gl X "zip") (hm : X.mg "zip" = none) (ha : DA X [e, e2] ta)
    (hs : starEach [e, e2] X.env = (false, eval e X.env) :: starEach [e2] X.env := by rfl) (hpl : (backTo pos (starEach [e2] X.env)).any (·.1) = false := by rfl) :
    DI X (.Tuple elts kk tpos) (.Call (.Name "zip" p) [e, e2] [] pos) (iZp ta) := by
  refine ⟨piImp (RZ.pi_zipA hg hm ha.pa hs hpl) ?_⟩
  rintro σ H R ⟨dσ, h, P, rs, rh, q, f⟩
  refine ⟨dσ, h, _, rs, rh, q, fun ds h1 vs H1 q1 k1 rh1 r1 => ?_⟩
  split at q1
  · obtain ⟨v, u, rfl, rv, ru⟩ := r1.two
    obtain ⟨a, vs, rfl, s1, t1⟩ := rv
    obtain ⟨b, us, rfl, s2, t2⟩ := ru
    refine ⟨a, b, vs, us, rfl, .inr ⟨s1, s2, f _ _ _ _ _ q1 k1 rh1 fun H2 h2 k2 rh2 _ => ?_⟩⟩
    have s3 := SqT.keep k2 s1
    have s4 := SqT.keep k2 s2
    have t3 := RDs.keep k2 _ _ t1
    have t4 := RDs.keep k2 _ _ t2
    refine ⟨fun i d ed => ?_, ⟨vs, us, s3, s4, by rw [t3.length, t4.length, pairs_length]; omega⟩⟩
    obtain ⟨x, y, ex, ey, rfl⟩ := pairs_get ed
    obtain ⟨vx, evx, rvx⟩ := t3.get ex
    obtain ⟨vy, evy, rvy⟩ := t4.get ey
    refine ⟨⟨vs, us, vx, vy, s3, s4, evx, evy⟩, fun x' H' z => ?_⟩
    obtain ⟨T, x1, y1, rfl, nT, rfl, hx, hy⟩ := z
    have e3 : some vx = some x1 := evx.symm.trans (hx vs s3)
    have e4 : some vy = some y1 := evy.symm.trans (hy us s4)
    cases e3; cases e4
    have n := RH.newT (vs := [vx, vy]) rh2 nT
    exact ⟨n.1, n.2, RD.newT nT ⟨_, _, rfl, rvx, _, _, rfl, rvy, rfl⟩⟩
  · obtain ⟨v, u, rfl, rv, ru⟩ := r1.two
    obtain ⟨a, vs, xs, rfl, g1, q1, src1⟩ := seq_it rh1 rv q1
    obtain ⟨b, us, ys, rfl, g2, q1, src2⟩ := seq_it rh1 ru q1
    refine ⟨_, _, vs, us, rfl, .inl ⟨g1, g2, f _ _ _ _ _ q1 k1 rh1 fun H2 h2 k2 rh2 s2 => ?_⟩⟩
    obtain ⟨vs2, g3, t3⟩ := src1 H2 h2 k2 rh2 s2.1
    obtain ⟨us2, g4, t4⟩ := src2 H2 h2 k2 rh2 s2.2
    refine ⟨fun i d ed => ?_, ⟨vs2, us2, g3, g4, by rw [t3.length, t4.length, pairs_length]; omega⟩⟩
    obtain ⟨x, y, ex, ey, rfl⟩ := pairs_get ed
    obtain ⟨vx, evx, rvx⟩ := t3.get ex
    obtain ⟨vy, evy, rvy⟩ := t4.get ey
    refine ⟨⟨vs2, us2, vx, vy, g3, g4, evx, evy⟩, fun x' H' z => ?_⟩
    obtain ⟨T, x1, y1, rfl, nT, rfl, hx, hy⟩ := z
    have e3 : some vx = some x1 := evx.symm.trans (hx vs2 g3)
    have e4 : some vy = some y1 := evy.symm.trans (hy us2 g4)
    cases e3; cases e4
    have n := RH.newT (vs := [vx, vy]) rh2 nT
    exact ⟨n.1, n.2, RD.newT nT ⟨_, _, rfl, rvx, _, _, rfl, rvy, rfl⟩⟩
  · exact q1.elim
end
end DL
/-! D14: enumerate over a tuple. -/
namespace DL
open PySem PySem.Spec PyProof.Rows L2

/-- the enumerate object over a tuple, as it is made -/
abbrev enumO (it : Addr) : Obj := { cls := .type "enumerate", data := .fields #[.none, .bool false, .ref it, rawInt 0, .none, .none] }
abbrev tupIt (l : Addr) : Obj := { cls := .type "tuple_iterator", data := .fields #[.ref l, .int 0 0] }
set_option maxHeartbeats 4000000 in
theorem meets_enumT (l : Addr) (ob : Obj) (items : Array Value) (k : Nat) (hc : ob.cls = .type "tuple") (hd : ob.data = .seq items k) :
    Meets (Builtin.«enumerate.__new__» ⟨[.type "enumerate", .ref l], []⟩) fun _ R s => s.heap.get? l = some ob ∧
      R (.ok (.ret (.ref (s.heap.push (tupIt l)).objs.size))) { s with heap := (s.heap.push (tupIt l)).push (enumO s.heap.objs.size) } :=
  .of_wp fun prog w A R s h => by
    obtain ⟨hp, g, d, tk, os⟩ := s
    obtain ⟨hl, h⟩ := h
    have sub := sub_enumerate
    have tl : Heap.IsTuple (Shared.heap ⟨hp, g, d, tk, os⟩) l items := ⟨ob, hl, hc, k, hd⟩
    wp_walk using AutoSeq1.wpAny_loadPart' hl
    refine wpAny_stack_any fun st => wpAny_pure ?_
    split
    · rename_i c _ _ _ _ _
      cases (c == Value.type "enumerate")
      · wp_walk using AutoSeq1.wpAny_loadPart' hl, wpAny_pyIter_tuple tl
        exact ⟨_, rfl, h⟩
      · wp_walk using AutoSeq1.wpAny_loadPart' hl, wpAny_pyIter_tuple tl
        exact ⟨_, rfl, h⟩
    · wp_walk using AutoSeq1.wpAny_loadPart' hl, wpAny_pyIter_tuple tl
      exact ⟨_, rfl, h⟩
theorem call_enumT {prog : Program} {w : World} {A : Around} {E : Value → Shared → Prop} {s : Shared} {l : Addr} {items : Array Value} {Q : Value → Shared → Prop} (ht : s.heap.IsTuple l items)
    (h : ∀ h', IsEnum h' (s.heap.objs.size + 1) s.heap.objs.size 0 .none → h'.IsTupleIter s.heap.objs.size l 0 → h'.objs.size = s.heap.objs.size + 2 →
      (∀ b o, s.heap.get? b = some o → h'.get? b = some o) → Q (.ref (s.heap.objs.size + 1)) { s with heap := h' }) :
    wpAny (model prog w) A (call (.type "enumerate") [.ref l]) Q E s := by
  obtain ⟨ob, hl, hc, k, hd⟩ := ht
  have sz : (s.heap.push (tupIt l)).objs.size = s.heap.objs.size + 1 := Heap.size_push ..
  refine callType_new F.called_enumerate (by decide) (F.typeCall_enumerate_1 _) (F.newCall_enumerate_1 _) (fun obj => F.args_object_init_2 obj _) F.entry_enumerate_new (meets_enumT l ob items k hc hd) ⟨hl, ?_⟩
  show _ ∧ _
  rw [sz]
  have en : IsEnum ((s.heap.push (tupIt l)).push (enumO s.heap.objs.size)) (s.heap.objs.size + 1) s.heap.objs.size 0 .none := by
    have z := Heap.get?_push_size (s.heap.push (tupIt l)) (o := enumO s.heap.objs.size) rfl
    rwa [sz] at z
  exact ⟨⟨_, en, rfl⟩, h _ en ⟨_, Heap.get?_push_of_some _ (Heap.get?_push_size _ rfl), rfl, rfl⟩ (by rw [Heap.size_push, sz]) fun b o z => Heap.get?_push_of_some _ (Heap.get?_push_of_some _ z)⟩
/-- the tuple at a, numbered -/
def IteT (K : PySem.W.Frag) (a : Addr) : It where
  go := fun i H => ∃ (xs : List V) (x : V), SqT K H a xs ∧ xs[i]? = some x
  yld := fun i H v H' => ∃ T x, v = .ref T ∧ H T = none ∧ H' = upd H T (.tup [.int (i : Nat), x]) ∧ ∀ xs, SqT K H a xs → xs[i]? = some x
  stop := fun i H => ∃ xs : List V, SqT K H a xs ∧ xs.length = i
theorem turn_enumT {P : Program} {w : World} {K : PySem.W.Frag} {elts : List Expr} {kk : Nat} {tpos : Pos} (a e it : Addr) :
    Turn P w K (.Tuple elts kk tpos) (IteT K a) [e, it] e (fun i h => (∃ old, IsEnum h e it ((i : Nat) : Int) old) ∧ h.IsTupleIter it a i ∧ e ≠ it) where
  mem := List.mem_cons_self
  obj := fun i h st b hb => by
    obtain ⟨⟨old, he⟩, ⟨o, ho, _, hd⟩, _⟩ := st
    rcases List.mem_cons.mp hb with rfl | hb
    · exact ⟨_, he, fun v q => nomatch q⟩
    · rw [List.mem_singleton.mp hb]
      exact ⟨o, ho, fun v q => by rw [hd] at q; cases q⟩
  keep := fun i h h' st k => by
    obtain ⟨⟨old, he⟩, hi, hne⟩ := st
    exact ⟨⟨old, k e List.mem_cons_self _ he⟩, hi.at fun o q => k it (List.mem_cons_of_mem _ List.mem_cons_self) o q, hne⟩
  item := by
    intro X hP hw hK hc i pins s σ H E I hf st hg
    subst hP hw hK
    obtain ⟨⟨old, he⟩, hit, hne⟩ := st
    obtain ⟨xs, x, hq, hx⟩ := hg
    obtain ⟨its, rv, tp, _⟩ := I.tuple hq
    obtain ⟨u, hu, ru⟩ := rv.get hx
    have tpl : s.heap.IsTuple a its.toArray := tp
    have hil : i < its.toArray.size := by simpa using (List.getElem?_eq_some_iff.mp hu).1
    have nea : a ≠ e := fun z => by
      obtain ⟨o, ho, hc, _⟩ := tpl
      rw [z] at ho
      have ee : s.heap.get? e = some _ := he
      rw [ho] at ee
      cases ee
      injection hc with z
      exact absurd z (by decide)
    have nai : a ≠ it := fun z => by
      obtain ⟨o, ho, hc, _⟩ := tpl
      obtain ⟨o2, ho2, hc2, _⟩ := hit
      rw [z, ho2] at ho
      cases ho
      rw [hc2] at hc
      injection hc with z
      exact absurd z (by decide)
    have el : e < s.heap.objs.size := Heap.lt_size he
    have il : it < s.heap.objs.size := by obtain ⟨_, q, _⟩ := hit; exact Heap.lt_size q
    refine wpAny_pyNext_enum_itemD (Draws.tuple (A := X.A.in1) (show X.A.in1.handled = none from I.ok.hd hc) it a nai its.toArray) he ⟨hit, tpl⟩ hil hne (fun z => ?_) fun x' h1 tk px out st1 new1 sz keep => ?_
    · rcases List.mem_cons.mp z with z | z
      · exact hne z
      · exact nea (List.mem_singleton.mp z).symm
    have ux : x' = u := by
      have z := px
      rw [List.getElem?_toArray, hu] at z
      exact (Option.some.inj z).symm
    subst ux
    refine ⟨_, rfl, wpAny_letOwnedTupleGo_enum (s := { s with heap := h1, toks := tk + 1 }) out fun h2 he2 sb => ?_⟩
    have new2 : h2.get? s.heap.objs.size = some { cls := .type "tuple", data := .seq #[.int i tk, x'] } := (sb.2 _ (Nat.ne_of_gt el)).trans new1
    have ob : ObjOk X.prog X.w (upd H s.heap.objs.size (.tup [.int (i : Nat), x])) h2 s.heap.objs.size (.tup [.int (i : Nat), x]) :=
      ⟨by show 2 ≤ sizeLine; decide, [.int i tk, x'], .cons ⟨_, rfl⟩ (.cons ru .nil), ⟨_, new2, rfl, _, rfl⟩⟩
    have J : L2.Inv X pins σ (upd H s.heap.objs.size (.tup [.int (i : Nat), x])) { s with heap := h2, toks := tk + 1 } := by
      refine I.turnedNew (ch := [e, it]) (fun b o hb q => ?_) hf (Nat.le_refl _) ob
      have b1 : b ≠ e := fun z => hb (by rw [z]; exact List.mem_cons_self)
      have b2 : b ≠ it := fun z => hb (by rw [z]; exact List.mem_cons_of_mem _ List.mem_cons_self)
      exact (sb.2 b b1).trans (keep b o b1 b2 q)
    refine ⟨.ref s.heap.objs.size, _, J, rfl, ⟨_, x, rfl, I.hok.fresh (Nat.le_refl _), rfl, fun ys hy => by rw [I.tuple_inj hy hq]; exact hx⟩, ⟨⟨x', ?_⟩, st1.1.at fun o q => (sb.2 it hne.symm).trans q, hne⟩, fun b hb => ?_⟩
    · rw [show ((i + 1 : Nat) : Int) = (i : Int) + 1 by omega]
      exact he2
    · have bl : b < s.heap.objs.size := by
        rcases List.mem_cons.mp hb with z | z
        · rw [z]; exact el
        · rw [List.mem_singleton.mp z]; exact il
      rw [upd_ne (Nat.ne_of_lt bl)]
      exact (hf b hb).1
  done := by
    intro X hP hw hK hc i pins s σ H E I hf st hg
    subst hP hw hK
    obtain ⟨⟨old, he⟩, hit, hne⟩ := st
    obtain ⟨xs, hq, rfl⟩ := hg
    obtain ⟨its, rv, tp, _⟩ := I.tuple hq
    have tpl : s.heap.IsTuple a its.toArray := tp
    have len : its.toArray.size = xs.length := by rw [List.size_toArray]; exact rv.length.symm
    have nai : a ≠ it := fun z => by
      obtain ⟨o, ho, hc, _⟩ := tpl
      obtain ⟨o2, ho2, hc2, _⟩ := hit
      rw [z, ho2] at ho
      cases ho
      rw [hc2] at hc
      injection hc with z
      exact absurd z (by decide)
    obtain ⟨f0, f1, f2, f3, f4, f5⟩ := hf it (List.mem_cons_of_mem _ List.mem_cons_self)
    exact wpAny_pyNext_enum_endD (Draws.tuple (A := X.A.in1) (show X.A.in1.handled = none from I.ok.hd hc) it a nai its.toArray) he ⟨by rw [len]; exact hit, tpl⟩ fun h' eb => ⟨rfl, I.turned (t' := s.toks) (fun b o hb q => eb b o hb q) f0 f1 f3 f4 f5⟩
  self := fun A i s Q E st h => let ⟨⟨_, he⟩, _⟩ := st; wpAny_pyIter_enum he h

section
variable {X : Cx} {e : Expr} {pos : Pos}
def iEnT (ta : DTA) : DTI := fun σ h P => ta σ h fun ds h1 => match ds with
  | [.tup xs] => P (numbered xs) (fun _ => True) h1
  | _ => False
theorem di_enumT {ta : DTA} {p tpos : Pos} {elts : List Expr} {kk : Nat} (hg : Gl X "enumerate") (hm : X.mg "enumerate" = none) (ha : DA X [e] ta) (hs : starEach [e] X.env = [(false, eval e X.env)] := by rfl) :
    DI X (.Tuple elts kk tpos) (.Call (.Name "enumerate" p) [e] [] pos) (iEnT ta) := by
  refine ⟨⟨fun pins s σ H R I q0 => ?_⟩⟩
  obtain ⟨dσ, h, P, rs, rh, q, f⟩ := q0
  refine Call_ (ld_blt I hg hm boot_enumerate (PyProof.Rows.callWith_type1 (thn (ha.pa.run pos pins s σ H (fun vs H1 => ∃ ds h1, RDs X.K X.w H1 ds vs ∧ RH X.K X.w H1 h1 ∧ Keeps H H1 ∧ match ds with
    | [.tup xs] => P (numbered xs) (fun _ => True) h1
    | _ => False) I ⟨dσ, h, _, rs, rh, q, fun ds h1 vs H1 q1 k1 rh1 r1 => ⟨ds, h1, r1, rh1, k1, q1⟩⟩) fun us s1 ⟨vs, H1, I1, r1, ds, h1, rd, rh1, k1, q1⟩ => ?_) hs rfl))
  split at q1
  · rename_i xs
    obtain ⟨v, rfl, rv⟩ := rd.one
    obtain ⟨a, us, rfl, sq, t1⟩ := rv
    obtain ⟨u, rfl, ru⟩ := vals1 r1
    cases ru
    obtain ⟨its, rv2, tp, _⟩ := I1.tuple sq
    refine call_enumT (show s1.heap.IsTuple a its.toArray from tp) fun h' he hit hsz hk => wpAny_pyIter_enum he ?_
    have I2 : L2.Inv X pins σ H1 { s1 with heap := h' } := I1.kept (t' := s1.toks) hk
    refine ⟨s1.heap.objs.size + 1, [s1.heap.objs.size + 1, s1.heap.objs.size], _, _, H1, rfl, I2, turn_enumT a (s1.heap.objs.size + 1) s1.heap.objs.size, ⟨⟨.none, he⟩, hit, Nat.succ_ne_self _⟩, fun b hb => ?_, ?_⟩
    · have hle : s1.heap.objs.size ≤ b := by
        rcases List.mem_cons.mp hb with z | z
        · rw [z]; exact Nat.le_add_right _ _
        · rw [List.mem_singleton.mp z]; exact Nat.le_refl _
      exact I1.fpOk hle (I1.hok.fresh hle)
    · refine f _ _ _ _ _ q1 k1 rh1 fun H2 h2 k2 rh2 _ => ?_
      have s2 := SqT.keep k2 sq
      have t2 := RDs.keep k2 _ _ t1
      refine ⟨fun i d ed => ?_, ⟨us, s2, by rw [t2.length, numbered_length]⟩⟩
      obtain ⟨y, ey, rfl⟩ := numbered_get ed
      obtain ⟨w, ew, rw_⟩ := t2.get ey
      refine ⟨⟨us, w, s2, ew⟩, fun x H' z => ?_⟩
      obtain ⟨T, x', rfl, nT, rfl, hx⟩ := z
      have e3 : some w = some x' := ew.symm.trans (hx us s2)
      cases e3
      have n := RH.newT (vs := [V.int (i : Nat), w]) rh2 nT
      exact ⟨n.1, n.2, RD.newT nT ⟨_, _, rfl, rfl, _, _, rfl, rw_, rfl⟩⟩
  · exact q1.elim
end
end DL
/-! D15: comprehensions with three fors: one rule for the loop of any clause, what stands within abstract. -/
namespace DL
open PySem PySem.Spec PyProof.Rows L2

section
variable {X : Cx} {elt : Expr} {gens : List Comprehension} {scope : Scope} {pos : Pos}
/-- what is run within a turn of the clause ahead of d: the next clause's own loop, or the item's -/
def Within (X : Cx) (elt : Expr) (gens : List Comprehension) (scope : Scope) (pos : Pos) (d : Nat) (D : Addr) (post : Shared → Prop) (s : Shared) : Prop :=
  match gens[d]? with
  | none => wpAny (model X.prog X.w) X.A (eval elt X.env) (fun x s1 => wpAny (model X.prog X.w) X.A (call (.builtin "list.append") [.ref D, x]) (fun _ s2 => post s2) (fun _ _ => False) s1) (fun _ _ => False) s
  | some g => wpAny (model X.prog X.w) X.A (eval g.iter X.env) (fun x s1 => wpAny (model X.prog X.w) X.A (pyIter x) (fun it s2 => codeAny (model X.prog X.w) X.A (.compStart (.ListComp elt gens scope pos) d it (.ref D) X.env) (fun r s3 => match r with
    | .ok _ => post s3
    | .error _ => False) s2) (fun _ _ => False) s1) (fun _ _ => False) s
/-- the slots behind what stands within, by those ahead of it -/
def Less (vs : List Nat) (σ σ' : L2.St) : Prop := σ.length = σ'.length ∧ ∀ (j : Nat) v, (L2.wipe σ vs)[j]? = some (some v) → σ'[j]? = some (some v)
theorem Less.refl (σ : L2.St) : Less [] σ σ := ⟨rfl, fun _ _ e => e⟩
/-- a transformer that is kept by what stands within -/
def WithinOk (X : Cx) (elt : Expr) (gens : List Comprehension) (scope : Scope) (pos : Pos) (d : Nat) (D : Addr) (vs : List Nat) (t : L2.St → Hp → (Hp → Prop) → Prop) : Prop :=
  ∀ (pins : List (Addr × Obj)) (s : Shared) (σ : L2.St) (H : Hp) (N : Hp → Prop) (post : Shared → Prop), L2.Inv X pins σ H s → t σ H N → (∀ s' H' σ', L2.Inv X pins σ' H' s' → Less vs σ σ' → N H' → post s') → Within X elt gens scope pos d D post s
/-- a clause's own loop -/
theorem clause_loop {d : Nat} {tg iter : Expr} {ifs : List Expr} {pins : List (Addr × Obj)} {σ0 : L2.St} {fp : List Addr} {tn : Nat → Heap → Prop} {J : It} {it D : Addr} {g : TG} {tt : TT} {vs vs1 : List Nat} {t : L2.St → Hp → (Hp → Prop) → Prop}
    {R : Result → Shared → Prop} {W : Nat → Nat → Hp → Prop} {Done : Hp → Prop}
    (hc : X.calm = true) (hxe : X.xe = fun _ _ => False) (hd : gens[d]? = some ⟨tg, iter, ifs, 0⟩) (hn : ∀ c, gens[d + 1]? = some c → c.is_async = 0 ∧ ∀ x, foldedSetIterable c.iter X.env x = pure x)
    (T : Turn X.prog X.w X.K tg J fp it tn) (pg : PG X tg g) (pt : PTs X ifs tt) (wo : WithinOk X elt gens scope pos (d + 1) D vs1 t) (sub : ∀ i ∈ vs1, i ∈ vs)
    (stat : ∀ (s : Shared) (σ : L2.St) (H : Hp), L2.Inv X pins σ H s → (∀ b ∈ fp, H b = none) → ∀ b ∈ fp, FpOk X pins H b)
    (turn : ∀ i m H, W i m H → (J.stop i H ∧ Done H) ∨ (J.go i H ∧ ∃ N : Hp → Prop, (∀ H', N H' → ∃ m', m' < m ∧ W (i + 1) m' H') ∧ ∀ x H', J.yld i H x H' → g x σ0 H' fun σ2 H2 => L2.wipe σ2 vs = σ0 ∧ tt σ2 H2 fun b H3 => if b = true then t σ2 H3 N else N H3))
    (hstop : ∀ s H, L2.Inv X pins σ0 H s → Done H → R (.ok .next) s)
    {m0 : Nat} {s : Shared} {H0 : Hp} (I0 : L2.Inv X pins σ0 H0 s) (st0 : tn 0 s.heap) (n0 : ∀ b ∈ fp, H0 b = none) (w0 : W 0 m0 H0) :
    codeAny (model X.prog X.w) X.A (.compLoop (.ListComp elt gens scope pos) d (.ref it) (.ref D) X.env) R s := by
  refine codeAny_loop rfl (fun n s' => ∃ i H', L2.Inv X pins σ0 H' s' ∧ tn i s'.heap ∧ (∀ b ∈ fp, H' b = none) ∧ W i n H') (fun n s1 hI => ?_) m0 ⟨0, H0, I0, st0, n0, w0⟩
  obtain ⟨i, H1, I1, st1, n1, w1⟩ := hI
  show wpAny _ X.A ((compTurn (.ListComp elt gens scope pos) d (.ref it) (.ref D) X.env).onRaise (fun x => do noteFrame x X.env; theTreesLotGoes x)) _ _ s1
  refine wpAny_noted ?_
  unfold compTurn
  simp only [hd, bne_self_eq_false, Bool.false_eq_true, if_false]
  refine wpAny_bind (wpAny_standAt (wpAny_bind ?_))
  rcases turn i n H1 w1 with ⟨stop, dn⟩ | ⟨go, N, hN, step⟩
  · refine thnF (T.done X rfl rfl rfl hc i pins s1 σ0 H1 (fun _ _ => False) I1 (stat _ _ _ I1 n1) st1 stop) fun r s2 ⟨hr, I2⟩ => ?_
    subst hr
    exact wpAny_pure (hstop _ _ I2 dn)
  · refine thnF (T.item X rfl rfl rfl hc i pins s1 σ0 H1 (fun _ _ => False) I1 (stat _ _ _ I1 n1) st1 go) fun r s2 ⟨u, hr, h2⟩ => ?_
    subst hr
    refine wpAny_bind (thnF h2 fun _ s3 ⟨x, H3, I3, r3, y3, st3, n3⟩ => ?_)
    have I3' := I3.pinned (stat _ _ _ I3 n3) (T.obj _ _ st3)
    have ra := pg.run _ s3 _ H3 x u _ I3' r3 (step x H3 y3)
    rw [hxe] at ra
    refine wpAny_bind (thnF ra fun _ s4 ⟨σ4, H4, I4, hw4, q4⟩ => ?_)
    have rt := pt.run _ s4 σ4 H4 _ I4 q4
    rw [hxe] at rt
    refine wpAny_bind (thnF rt fun b s5 ⟨H5, I5, q5⟩ => ?_)
    have fin : ∀ {σ' : L2.St} {s' : Shared} {H' : Hp}, L2.Inv X (pins ++ pinsAt fp s3.heap) σ' H' s' → Less vs1 σ4 σ' → N H' → ∃ m, m < n ∧ ∃ i H', L2.Inv X pins σ0 H' s' ∧ tn i s'.heap ∧ (∀ b ∈ fp, H' b = none) ∧ W i m H' := fun {σ' s' H'} I' le nx => by
      obtain ⟨m', hm, w'⟩ := hN H' nx
      have pin : ∀ b ∈ fp, ∀ o, s3.heap.get? b = some o → s'.heap.get? b = some o ∧ H' b = none := fun b hb o e =>
        let z := I'.pin (b, o) (List.mem_append_right _ (List.mem_append_right _ (mem_pinsAt hb e)))
        ⟨z.1, z.2.1⟩
      refine ⟨m', hm, i + 1, H', I'.unpinned.weak (by rw [← le.1, ← hw4, L2.wipe_length]) (fun j v e => ?_), T.keep _ _ _ st3 fun b hb o e => (pin b hb o e).1, fun b hb => ?_, w'⟩
      · rw [← hw4] at e
        obtain ⟨e1, e2⟩ := wipe_some e
        refine le.2 j v ?_
        rw [wipe_out fun z => e2 (sub j z)]
        exact e1
      · obtain ⟨o, e, _⟩ := T.obj _ _ st3 b hb
        exact (pin b hb o e).2
    cases b with
    | false =>
      simp only [Bool.false_eq_true, if_false] at q5 ⊢
      exact wpAny_pure ⟨rfl, fin I5 (⟨rfl, fun j v e => (wipe_some e).1⟩) q5⟩
    | true =>
      simp only [if_true] at q5 ⊢
      have z := wo _ s5 σ4 H5 N (fun s' => ∃ m, m < n ∧ ∃ i H', L2.Inv X pins σ0 H' s' ∧ tn i s'.heap ∧ (∀ b ∈ fp, H' b = none) ∧ W i m H') I5 q5 (fun s' H' σ' I' le nx => fin I' le nx)
      unfold Within at z
      cases e : gens[d + 1]? with
      | none =>
        rw [e] at z
        simp only [e]
        refine wpAny_bind (wpAny_bind (thnF z fun x s6 h6 => wpAny_bind (thnF h6 fun _ s7 h7 => wpAny_pure (wpAny_pure ⟨rfl, h7⟩))))
      | some c =>
        rw [e] at z
        obtain ⟨c1, c2⟩ := hn c e
        simp only [e, c1, bne_self_eq_false, Bool.false_eq_true, if_false]
        refine wpAny_bind (thnF z fun x s6 h6 => ?_)
        refine wpAny_bind (wpAny_standAt (wpAny_bind (wpAny_of_eq (c2 x) (wpAny_bind (wpAny_holding (thnF h6 fun it1 s7 h7 => ?_))))))
        refine wpAny_bind (wpAny_runOwn ?_)
        rw [Around.mark_none]
        refine codeAny_mono h7 fun r s8 hr => ?_
        cases r with
        | ok f => exact wpAny_pure ⟨rfl, hr⟩
        | error e => exact hr.elim
/-- the item, put behind the new list's -/
theorem within_item {te : TE} {D : Addr} {d : Nat} (hxe : X.xe = fun _ _ => False) (hd : gens[d]? = none) (pe : PE X elt te) :
    WithinOk X elt gens scope pos d D [] (fun σ H N => te σ H fun y H1 => ∃ acc, H1 D = some (.lst acc) ∧ acc.length < sizeLine ∧ N (upd H1 D (.lst (acc ++ [y])))) := by
  intro pins s σ H N post I q fin
  unfold Within
  rw [hd]
  have r := pe.run pins s σ H _ I q
  rw [hxe] at r
  refine thnF r fun z s1 ⟨y, H1, I1, r1, acc, e, hz, nx⟩ => ?_
  exact app_ok I1 e hz r1 fun s2 I2 => fin s2 _ σ I2 (Less.refl σ) nx
/-- the next clause: its own source, its loop -/
theorem within_clause {D : Addr} {d : Nat} {tg iter : Expr} {ifs : List Expr} {wi : TI} {g : TG} {tt : TT} {vs vs1 : List Nat} {t : L2.St → Hp → (Hp → Prop) → Prop} (hc : X.calm = true) (hxe : X.xe = fun _ _ => False)
    (hd : gens[d]? = some ⟨tg, iter, ifs, 0⟩) (hcl : (clausesOf (.ListComp elt gens scope pos))[d]? = some ⟨tg, iter, ifs, 0⟩) (hn : ∀ c, gens[d + 1]? = some c → c.is_async = 0 ∧ ∀ x, foldedSetIterable c.iter X.env x = pure x)
    (pi : PI X tg iter wi) (pg : PG X tg g) (pt : PTs X ifs tt) (wo : WithinOk X elt gens scope pos (d + 1) D vs1 t) (sub : ∀ i ∈ vs1, i ∈ vs) :
    WithinOk X elt gens scope pos d D vs (fun σ H N => wi σ H fun J H1 => ∃ W : Nat → Nat → Hp → Prop, (∃ m, W 0 m H1) ∧ ∀ i m H, W i m H →
      (J.stop i H ∧ N H) ∨ (J.go i H ∧ ∃ N1 : Hp → Prop, (∀ H', N1 H' → ∃ m', m' < m ∧ W (i + 1) m' H') ∧ ∀ x H', J.yld i H x H' → g x (L2.wipe σ vs) H' fun σ2 H2 => L2.wipe σ2 vs = L2.wipe σ vs ∧ tt σ2 H2 fun b H3 => if b = true then t σ2 H3 N1 else N1 H3)) := by
  intro pins s σ H N post I q fin
  unfold Within
  rw [hd]
  have r := pi.run pins s σ H _ I q
  rw [hxe] at r
  refine thnF r fun xv s1 h1 => thnF h1 fun itv s2 h2 => ?_
  obtain ⟨it, fp, tn, J, H2, rfl, I2, T, st2, f2, W, ⟨m0, w0⟩, turn⟩ := h2
  have lp : codeAny (model X.prog X.w) X.A (.compLoop (.ListComp elt gens scope pos) d (.ref it) (.ref D) X.env) (fun r s3 => match r with
      | .ok _ => post s3
      | .error _ => False) s2 :=
    clause_loop (R := fun r s3 => match r with
      | .ok _ => post s3
      | .error _ => False) (σ0 := L2.wipe σ vs) hc hxe hd hn T pg pt wo sub (fun s' σ' H' _ hn' b hb => ⟨hn' b hb, (f2 b hb).2⟩) turn (fun s' H' I' dn => fin s' H' _ I' ⟨(L2.wipe_length _ _).symm, fun j v e => e⟩ dn)
      (I2.weak (L2.wipe_length _ _) (fun j v e => (wipe_some e).1)) st2 (fun b hb => (f2 b hb).1) w0
  refine codeAny_of_tree ?_
  show wpAny _ _ ((compStart (.ListComp elt gens scope pos) d (.ref it) (.ref D) X.env).onRaise (fun x => do noteFrame x X.env; standAt theWindowsPlace)) _ _ s2
  refine wpAny_notedAt ?_
  unfold compStart
  simp only [hcl, Option.elim, bne_self_eq_false, Bool.false_eq_true, if_false]
  refine wpAny_bind (wpAny_askSetting (wpAny_ite ?_))
  split
  · first
      | exact wpAny_bind (wpAny_pure (wpAny_pure ⟨rfl, lp⟩))
      | exact wpAny_pure ⟨rfl, lp⟩
  · exact wpAny_bind (wpAny_rule (wpAny_bind (wpAny_standAt (wpAny_bind (T.self _ 0 _ _ _ st2 (wpAny_pure ⟨rfl, lp⟩))))))
end
section
variable {X : Cx} {elt : Expr} {rest : List Comprehension} {scope : Scope} {pos : Pos}
/-- the whole: D the new list -/
def tLcN (wi : TI) (g : TG) (tt : TT) (t : Addr → L2.St → Hp → (Hp → Prop) → Prop) (vs : List Nat) : TE := fun σ H Q => wi σ H fun J H1 => ∀ D, H1 D = none → ∃ W : Nat → Nat → Hp → Prop, (∃ m, W 0 m (upd H1 D (.lst []))) ∧ ∀ i m H, W i m H →
  (J.stop i H ∧ Q (.ref D) H) ∨ (J.go i H ∧ ∃ N : Hp → Prop, (∀ H', N H' → ∃ m', m' < m ∧ W (i + 1) m' H') ∧ ∀ x H', J.yld i H x H' → g x (L2.wipe σ vs) H' fun σ2 H2 => L2.wipe σ2 vs = L2.wipe σ vs ∧ tt σ2 H2 fun b H3 => if b = true then t D σ2 H3 N else N H3)
theorem lcN_core {pos' : Pos} {use : Option (Value → Sem Unit)} {Qf : Value → Shared → Prop} {pins : List (Addr × Obj)} {s : Shared} {σ : L2.St} {H : Hp} {Q : VK} {tg iter : Expr} {ifs : List Expr} {own : List (Str × Nat)} {vs1 : List Nat} {wi : TI} {g : TG} {tt : TT} {t : Addr → L2.St → Hp → (Hp → Prop) → Prop} (hc : X.calm = true) (hN : X.N.Nodup) (hi : PI X tg iter wi) (ok : BlkOk X.N X.env.scope scope own)
    (hr : ∀ c ∈ rest, c.is_async = 0 ∧ ∀ env x, foldedSetIterable c.iter env x = pure x) (hv : ∀ i ∈ vs1, i ∈ own.map (·.2))
    (hg : ∀ (s : Shared) (H : Hp) (C : Addr) (cl : List (Str × Addr)) (fp : List Addr), PG (X.blk s H scope (compEnvC scope cl C X.env) fp) tg g)
    (ht : ∀ (s : Shared) (H : Hp) (C : Addr) (cl : List (Str × Addr)) (fp : List Addr), PTs (X.blk s H scope (compEnvC scope cl C X.env) fp) ifs tt)
    (hw : ∀ (s : Shared) (H : Hp) (C : Addr) (cl : List (Str × Addr)) (fp : List Addr) (D : Addr), WithinOk (X.blk s H scope (compEnvC scope cl C X.env) fp) elt (⟨tg, iter, ifs, 0⟩ :: rest) scope pos 1 D vs1 (t D))
    (hs : ∀ x, foldedSetIterable iter X.env x = pure x)
    (I : L2.Inv X pins σ H s) (h : tLcN wi g tt t (own.map (·.2)) σ H Q)
    (fin : ∀ D C s' m H', L2.Inv X pins σ H' s' → Q (.ref D) H' → s'.heap.Ns C m → FpOk X pins H' C → compPost (model X.prog X.w) X.A X.xe use Qf (.ref D) C (.ok .next) s') :
    wpAny (model X.prog X.w) X.A (comprehension (.ListComp elt (⟨tg, iter, ifs, 0⟩ :: rest) scope pos) scope X.env pos' (newList []) false (eval iter X.env) use) Qf X.xe s := by
  have hfree : ∀ y ∈ scope.names, y.2 = .free → ∃ c, X.env.cells.lookup y.1 = some c := fun y hy e => by
    rcases ok.free y hy e with k | k
    · exact I.ok.has _ (.inl k)
    · exact I.ok.has _ (.inr k)
  refine wpAny_comprehension_free (use := use) rfl hs (closure_ok hfree) ok.kind (fun y hy e => by rw [ok.uniq y hy, e]) (thn (hi.run pins s σ H _ I h) fun xv s1 hx => thn hx fun itv s2 h2 => ?_)
  obtain ⟨it, fp, tn, J, H2, rfl, I2, T, st2, f2, q⟩ := h2
  refine wpAny_newObj_type (newEnv_comp ?_) (by show 0 ≤ sizeLine; decide)
  generalize hD : s2.heap.objs.size = D
  have hDn : H2 D = none := I2.hok.fresh (Nat.le_of_eq hD)
  obtain ⟨W, ⟨m0, w0⟩, turn⟩ := q D hDn
  generalize hs3 : ({ s2 with heap := s2.heap.push { cls := .type "list", data := .seq ([] : List Value).toArray } } : Shared) = s3
  have h3 : s3.heap = s2.heap.push { cls := .type "list", data := .seq ([] : List Value).toArray } := by rw [← hs3]
  have I3 : L2.Inv X pins σ (upd H2 D (.lst [])) s3 := by
    rw [← hs3]
    refine I2.laid (t' := s2.toks) (fun b o e => Heap.get?_push_of_some _ e) (Nat.le_of_eq hD) ⟨Nat.zero_le _, [], 0, .nil, ?_⟩
    rw [← hD]
    exact Heap.get?_push_size _ rfl
  have f3 : ∀ b ∈ fp, FpOk X pins (upd H2 D (.lst [])) b ∧ b < s3.heap.objs.size := fun b hb => by
    obtain ⟨o, e, _⟩ := T.obj _ _ st2 b hb
    have lt := Heap.lt_size e
    refine ⟨⟨?_, (f2 b hb).2⟩, by rw [h3, Heap.size_push]; exact Nat.lt_succ_of_lt lt⟩
    rw [upd_ne (by rw [← hD]; exact Nat.ne_of_lt lt)]
    exact (f2 b hb).1
  have st3 : tn 0 s3.heap := T.keep _ _ _ st2 fun b _ o e => by rw [h3]; exact Heap.get?_push_of_some _ e
  have I4 := block_start I3 ok hN f3
  have pg := hg s3 (upd H2 D (.lst [])) s3.heap.objs.size (cellsFrom (s3.heap.objs.size + 1) scope.names (cloFrom X.env.cells scope.names [])) fp
  have pt := ht s3 (upd H2 D (.lst [])) s3.heap.objs.size (cellsFrom (s3.heap.objs.size + 1) scope.names (cloFrom X.env.cells scope.names [])) fp
  have pw := hw s3 (upd H2 D (.lst [])) s3.heap.objs.size (cellsFrom (s3.heap.objs.size + 1) scope.names (cloFrom X.env.cells scope.names [])) fp D
  show codeAny _ _ (.compStart (.ListComp elt (⟨tg, iter, ifs, 0⟩ :: rest) scope pos) 0 (.ref it) (.ref D) (compEnvC scope (cellsFrom (s3.heap.objs.size + 1) scope.names (cloFrom X.env.cells scope.names [])) s3.heap.objs.size X.env)) (compPost (model X.prog X.w) X.A X.xe use Qf (.ref D) s3.heap.objs.size) { s3 with heap := pushCells (s3.heap.push { cls := .type "dict", data := .dict #[] }) scope.names }
  generalize hce : compEnvC scope (cellsFrom (s3.heap.objs.size + 1) scope.names (cloFrom X.env.cells scope.names [])) s3.heap.objs.size X.env = ce at I4 pg pt pw ⊢
  have cL : ce.locals = s3.heap.objs.size := by subst hce; rfl
  have nfp : ∀ b ∈ fp, (upd H2 D (.lst [])) b = none := fun b hb => (f3 b hb).1.1
  generalize hH3 : upd H2 D (.lst []) = H3 at I3 I4 pg pt pw w0 nfp f3
  generalize hs4 : ({ s3 with heap := pushCells (s3.heap.push { cls := .type "dict", data := .dict #[] }) scope.names } : Shared) = s4 at I4 ⊢
  have st4 : tn 0 s4.heap := T.keep _ _ _ st3 fun b _ o e => by rw [← hs4]; exact pushCells_keeps _ _ _ _ (Heap.get?_push_of_some _ e)
  have stat : ∀ (s' : Shared) (σ' : L2.St) (H' : Hp), L2.Inv (X.blk s3 H3 scope ce fp) [] σ' H' s' → (∀ b ∈ fp, H' b = none) → ∀ b ∈ fp, FpOk (X.blk s3 H3 scope ce fp) [] H' b := fun s' σ' H' I' hn b hb =>
    ⟨hn b hb, (I'.ok.exf b hb).1, I'.ok.exfs b hb, .inl hb, fun x c e => (I'.ok.exf b hb).2 x c e, fun p hp => absurd (show p ∈ ([] : List (Addr × Obj)) ++ [] from hp) (by simp)⟩
  have lp : codeAny (model X.prog X.w) X.A (.compLoop (.ListComp elt (⟨tg, iter, ifs, 0⟩ :: rest) scope pos) 0 (.ref it) (.ref D) ce) (compPost (model X.prog X.w) X.A X.xe use Qf (.ref D) s3.heap.objs.size) s4 := by
    refine clause_loop (X := X.blk s3 H3 scope ce fp) hc rfl rfl (fun c e => ?_) T pg pt pw hv stat turn (fun s5 H5 I5 dn => ?_) I4 st4 nfp w0
    · obtain ⟨a, b⟩ := hr c (List.mem_of_getElem? (show rest[0]? = some c from e))
      exact ⟨a, fun x => b _ x⟩
    · have I7 : L2.Inv X pins σ H5 s5 := I3.call' (ch := fp) I5.os I5.base I5.hok I5.bare fun b hb => ⟨(f3 b hb).1.2.2.2.1, (f3 b hb).1.2.1, (f3 b hb).1.2.2.2.2.1, (f3 b hb).1.2.2.2.2.2⟩
      have nC : H5 s3.heap.objs.size = none := by
        have z : H5 ce.locals = none := I5.free
        rwa [cL] at z
      obtain ⟨m, hn, _⟩ := I5.loc
      have hn2 : s5.heap.Ns ce.locals m := hn
      rw [cL] at hn2
      exact fin D _ s5 m H5 I7 dn hn2 (I3.fpOk (Nat.le_refl _) nC)
  exact codeAny_compStart_list lp (T.self X.A 0 _ _ _ st4 lp)
theorem pe_lcN {tg iter : Expr} {ifs : List Expr} {own : List (Str × Nat)} {vs1 : List Nat} {wi : TI} {g : TG} {tt : TT} {t : Addr → L2.St → Hp → (Hp → Prop) → Prop} (hc : X.calm = true) (hN : X.N.Nodup) (hi : PI X tg iter wi) (ok : BlkOk X.N X.env.scope scope own)
    (hr : ∀ c ∈ rest, c.is_async = 0 ∧ ∀ env x, foldedSetIterable c.iter env x = pure x) (hv : ∀ i ∈ vs1, i ∈ own.map (·.2))
    (hg : ∀ (s : Shared) (H : Hp) (C : Addr) (cl : List (Str × Addr)) (fp : List Addr), PG (X.blk s H scope (compEnvC scope cl C X.env) fp) tg g)
    (ht : ∀ (s : Shared) (H : Hp) (C : Addr) (cl : List (Str × Addr)) (fp : List Addr), PTs (X.blk s H scope (compEnvC scope cl C X.env) fp) ifs tt)
    (hw : ∀ (s : Shared) (H : Hp) (C : Addr) (cl : List (Str × Addr)) (fp : List Addr) (D : Addr), WithinOk (X.blk s H scope (compEnvC scope cl C X.env) fp) elt (⟨tg, iter, ifs, 0⟩ :: rest) scope pos 1 D vs1 (t D))
    (hs : ∀ x, foldedSetIterable iter X.env x = pure x) : PE X (.ListComp elt (⟨tg, iter, ifs, 0⟩ :: rest) scope pos) (tLcN wi g tt t (own.map (·.2))) := by
  refine ⟨fun pins s σ H Q I h => ?_⟩
  rw [eval_ListComp]
  refine lcN_core hc hN hi ok hr hv hg ht hw hs I h fun D C s' m H' I' q hn f => ?_
  obtain ⟨f0, f1, f2, f3, f4, f5⟩ := f
  exact ⟨m, hn, fun h'' sb => ⟨.ref D, H', I'.turned (t' := s'.toks) (fun b o hb e => (sb.2 b hb).trans e) f0 f1 f3 f4 f5, rfl, q⟩⟩
/-- a name set to it, on one line -/
theorem ps_setLcN {i : Nat} {y : Str} {py spos : Pos} {tg iter : Expr} {ifs : List Expr} {own : List (Str × Nat)} {vs1 : List Nat} {wi : TI} {g : TG} {tt : TT} {t : Addr → L2.St → Hp → (Hp → Prop) → Prop} (hy : X.N[i]? = some y) (hyl : X.env.scope.names.lookup y = some .local)
    (hsw : swapsWith (.ListComp elt (⟨tg, iter, ifs, 0⟩ :: rest) scope pos) (some (.Name y py)) spos.line X.env = pure true) (hc : X.calm = true) (hN : X.N.Nodup) (hi : PI X tg iter wi) (ok : BlkOk X.N X.env.scope scope own)
    (hr : ∀ c ∈ rest, c.is_async = 0 ∧ ∀ env x, foldedSetIterable c.iter env x = pure x) (hv : ∀ i ∈ vs1, i ∈ own.map (·.2))
    (hg : ∀ (s : Shared) (H : Hp) (C : Addr) (cl : List (Str × Addr)) (fp : List Addr), PG (X.blk s H scope (compEnvC scope cl C X.env) fp) tg g)
    (ht : ∀ (s : Shared) (H : Hp) (C : Addr) (cl : List (Str × Addr)) (fp : List Addr), PTs (X.blk s H scope (compEnvC scope cl C X.env) fp) ifs tt)
    (hw : ∀ (s : Shared) (H : Hp) (C : Addr) (cl : List (Str × Addr)) (fp : List Addr) (D : Addr), WithinOk (X.blk s H scope (compEnvC scope cl C X.env) fp) elt (⟨tg, iter, ifs, 0⟩ :: rest) scope pos 1 D vs1 (t D))
    (hs : ∀ x, foldedSetIterable iter X.env x = pure x) :
    PS X (.Assign [.Name y py] (.ListComp elt (⟨tg, iter, ifs, 0⟩ :: rest) scope pos) spos) (tAsg (tLcN wi g tt t (own.map (·.2))) (gName i)) := by
  refine ⟨fun pins s σ H D I h => ?_⟩
  rw [exec_Assign_Name_used _ _ _ _ hsw]
  refine wpAny_bind (wpAny_standAt (wpAny_bind ?_))
  have h : tLcN wi g tt t (own.map (·.2)) σ H (fun x H1 => gName i x σ H1 D.nx) := h
  refine wpAny_bind (thn (lcN_core (use := some (assign (.Name y py) X.env)) (Qf := fun _ s' => SP X pins D .next s') hc hN hi ok hr hv hg ht hw hs I h fun L C s' m H' I' q hn f => ?_) fun _ s' hq => wpAny_pure (wpAny_pure hq))
  show wpAny _ _ (assign (.Name y py) X.env (.ref L)) _ _ _
  refine wpAny_assign_Name (store_ok2 (v := V.ref L) I' hN hy (.inl hyl) rfl (fun s2 I2 z => ?_) (.inr hyl))
  obtain ⟨a, sb, ha⟩ := z
  obtain ⟨f0, f1, f2, f3, f4, f5⟩ := f
  have apart : C ≠ a := by
    rcases ha with z | z
    · rw [z]; exact f1
    · exact fun e => f4 y a z e.symm
  exact ⟨m, hn.sameBut sb apart, fun h3 sb3 => ⟨_, H', I2.turned (t' := s2.toks) (fun b o hb e => (sb3.2 b hb).trans e) f0 f1 f3 f4 f5, q⟩⟩
end

/-! ### over data -/
abbrev DWi := DSt → DH → (DH → Prop) → Prop
def LW (K : PySem.W.Frag) (w : World) (t : DWi) : L2.St → Hp → (Hp → Prop) → Prop := fun σ H N => ∃ dσ h P, RS K w H dσ σ ∧ RH K w H h ∧ t dσ h P ∧ ∀ h' H', P h' → Keeps H H' → RH K w H' h' → N H'
/-- the item, put behind -/
def wItem (te : DTE) (L : Addr) : DWi := fun σ h N => te σ h fun y h1 => lstAt h1 L fun acc => acc.length < sizeLine ∧ N (put h1 L (.lst (acc ++ [y])))
def wGo (g : DTG) (tt : DTT) (t : DWi) (st : DH → Prop) (σ : DSt) : List D → DH → (DH → Prop) → Prop
  | [], h, N => st h ∧ N h
  | x :: xs, h, N => st h ∧ g x σ h fun σ2 h2 => tt σ2 h2 fun b h3 => if b = true then t σ2 h3 fun h4 => wGo g tt t st σ xs h4 N else wGo g tt t st σ xs h3 N
theorem wGo_st {g : DTG} {tt : DTT} {t : DWi} {st : DH → Prop} {σ : DSt} {xs : List D} {h : DH} {N : DH → Prop} (q : wGo g tt t st σ xs h N) : st h := by
  cases xs with
  | nil => exact q.1
  | cons x xs => exact q.1
/-- a clause within -/
def wCl (ti : DTI) (g : DTG) (tt : DTT) (vs : List Nat) (t : Addr → DWi) (L : Addr) : DWi := fun σ h N => ti σ h fun xs st h1 => wGo g tt (t L) st (dwipe σ vs) xs h1 N
/-- the whole -/
def dLcN (ti : DTI) (g : DTG) (tt : DTT) (t : Addr → DWi) (vs : List Nat) : DTE := fun σ h P => ti σ h fun xs st h1 => fresh h1 (.lst []) fun L h2 => wGo g tt (t L) st (dwipe σ vs) xs h2 (P (.ref L))
theorem WithinOk.imp {X : Cx} {elt : Expr} {gens : List Comprehension} {scope : Scope} {pos : Pos} {d : Nat} {D : Addr} {vs : List Nat} {t t' : L2.St → Hp → (Hp → Prop) → Prop} (h : WithinOk X elt gens scope pos d D vs t) (i : ∀ σ H N, t' σ H N → t σ H N) : WithinOk X elt gens scope pos d D vs t' :=
  fun pins s σ H N post I q fin => h pins s σ H N post I (i _ _ _ q) fin
/-- the loop over data meets the loop over values -/
theorem wGo_lift {K : PySem.W.Frag} {w : World} {g : DTG} {tt : DTT} {t : DWi} {st : DH → Prop} {vs ws : List Nat} (hw : ∀ i ∈ ws, i ∈ vs) {σ : L2.St} {dσ : DSt} {xs : List D} {J : It} {H0 : Hp} {h0 : DH} {P : DH → Prop} {Done : Hp → Prop}
    (rs : RS K w H0 (dwipe dσ vs) (L2.wipe σ vs)) (rh : RH K w H0 h0) (ok : ∀ H2 h2, Keeps H0 H2 → RH K w H2 h2 → st h2 → (∀ (i : Nat) d, xs[i]? = some d → J.go i H2 ∧ ∀ x H', J.yld i H2 x H' → Keeps H2 H' ∧ RH K w H' h2 ∧ RD K w H' d x) ∧ J.stop xs.length H2)
    (q : wGo g tt t st (dwipe dσ vs) xs h0 P) (dn : ∀ h' H', P h' → Keeps H0 H' → RH K w H' h' → Done H') :
    ∃ W : Nat → Nat → Hp → Prop, (∃ m, W 0 m H0) ∧ ∀ i m H, W i m H →
      (J.stop i H ∧ Done H) ∨ (J.go i H ∧ ∃ N : Hp → Prop, (∀ H', N H' → ∃ m', m' < m ∧ W (i + 1) m' H') ∧ ∀ x H', J.yld i H x H' → LG K w ws g x (L2.wipe σ vs) H' fun σ2 H2 => L2.wipe σ2 vs = L2.wipe σ vs ∧ LT K w tt σ2 H2 fun b H3 => if b = true then LW K w t σ2 H3 N else N H3) := by
  refine ⟨fun i m H' => ∃ h', m = xs.length - i ∧ i ≤ xs.length ∧ Keeps H0 H' ∧ RH K w H' h' ∧ wGo g tt t st (dwipe dσ vs) (xs.drop i) h' P, ⟨xs.length, h0, by simp, Nat.zero_le _, Keeps.refl _, rh, q⟩, ?_⟩
  rintro i m H' ⟨h', rfl, hi', k', rh', q'⟩
  obtain ⟨o1, o2⟩ := ok H' h' k' rh' (wGo_st q')
  by_cases hlt : i < xs.length
  · rw [List.drop_eq_getElem_cons hlt] at q'
    obtain ⟨p1, p2⟩ := o1 i _ (List.getElem?_eq_getElem hlt)
    refine .inr ⟨p1, fun H2 => ∃ h2, Keeps H0 H2 ∧ RH K w H2 h2 ∧ wGo g tt t st (dwipe dσ vs) (xs.drop (i + 1)) h2 P, ?_, fun x H2 y => ?_⟩
    · rintro H2 ⟨h2, z⟩
      exact ⟨xs.length - (i + 1), by omega, h2, rfl, hlt, z⟩
    · obtain ⟨k2, rh2, r2⟩ := p2 x H2 y
      refine ⟨_, dwipe dσ vs, h', _, r2, rs.keep (k'.trans k2), rh2, q'.2, fun dσ3 h3 σ3 H3 q3 k3 rh3 rs3 so => ⟨wipe_same so hw, ?_⟩⟩
      refine ⟨dσ3, h3, _, rs3, rh3, q3, fun b h4 H4 q4 k4 rh4 => ?_⟩
      cases b with
      | false =>
        rw [if_neg Bool.false_ne_true] at q4 ⊢
        exact ⟨h4, k'.trans (k2.trans (k3.trans k4)), rh4, q4⟩
      | true =>
        rw [if_pos rfl] at q4 ⊢
        exact ⟨dσ3, h4, _, rs3.keep k4, rh4, q4, fun h5 H5 q5 k5 rh5 => ⟨h5, k'.trans (k2.trans (k3.trans (k4.trans k5))), rh5, q5⟩⟩
  · have e : i = xs.length := by omega
    subst e
    rw [List.drop_length] at q'
    exact .inl ⟨o2, dn _ _ q'.2 k' rh'⟩
section
variable {X : Cx} {elt : Expr} {gens : List Comprehension} {scope : Scope} {pos : Pos}
theorem wo_item {te : DTE} {D : Addr} {d : Nat} (hxe : X.xe = fun _ _ => False) (hd : gens[d]? = none) (pe : DE X elt te) : WithinOk X elt gens scope pos d D [] (LW X.K X.w (wItem te D)) := by
  refine (within_item (te := LE X.K X.w te) hxe hd pe.pe).imp ?_
  rintro σ H N ⟨dσ, h, P, rs, rh, q, f⟩
  refine ⟨dσ, h, _, rs, rh, q, fun y h1 v H1 q1 k1 rh1 r1 => ?_⟩
  obtain ⟨acc, e, hz, q1⟩ := of_lstAt q1
  obtain ⟨us, g1, t1⟩ := rh1.lst e
  have n := RH.setL rh1 g1 (t1.append (RDs.cons r1 (show RDs X.K X.w H1 [] [] from rfl)))
  exact ⟨us, g1, by rw [t1.length]; exact hz, f _ _ q1 (k1.trans n.1) n.2⟩
theorem wo_cl {D : Addr} {d : Nat} {tg iter : Expr} {ifs : List Expr} {ti : DTI} {g : DTG} {tt : DTT} {vs vs1 ws : List Nat} {t : Addr → DWi} (hc : X.calm = true) (hxe : X.xe = fun _ _ => False)
    (hd : gens[d]? = some ⟨tg, iter, ifs, 0⟩) (hn : ∀ c, gens[d + 1]? = some c → c.is_async = 0 ∧ ∀ x, foldedSetIterable c.iter X.env x = pure x)
    (pi : DI X tg iter ti) (pg : DG X ws tg g) (pt : DTs X ifs tt) (wo : WithinOk X elt gens scope pos (d + 1) D vs1 (LW X.K X.w (t D))) (sub : ∀ i ∈ vs1, i ∈ vs) (hw : ∀ i ∈ ws, i ∈ vs) :
    WithinOk X elt gens scope pos d D vs (LW X.K X.w (wCl ti g tt vs t D)) := by
  refine (within_clause (wi := LI X.K X.w ti) (g := LG X.K X.w ws g) (tt := LT X.K X.w tt) (t := LW X.K X.w (t D)) hc hxe hd hd hn pi.pi pg.pg pt.pts wo sub).imp ?_
  rintro σ H N ⟨dσ, h, P, rs, rh, q, f⟩
  refine ⟨dσ, h, _, rs, rh, q, fun xs st h1 J H1 q1 k1 rh1 ok => ?_⟩
  exact wGo_lift hw ((rs.keep k1).wipe vs) rh1 (fun H2 h2 k2 rh2 s2 => ok H2 h2 k2 rh2 s2) q1 fun h' H' p k r => f _ _ p (k1.trans k) r
theorem de_lcN {rest : List Comprehension} {tg iter : Expr} {ifs : List Expr} {own : List (Str × Nat)} {vs1 ws : List Nat} {ti : DTI} {g : DTG} {tt : DTT} {t : Addr → DWi} (hc : X.calm = true) (hN : X.N.Nodup) (hi : DI X tg iter ti) (ok : BlkOk X.N X.env.scope scope own)
    (hr : ∀ c ∈ rest, c.is_async = 0 ∧ ∀ env x, foldedSetIterable c.iter env x = pure x) (hv : ∀ i ∈ vs1, i ∈ own.map (·.2)) (hw0 : ∀ i ∈ ws, i ∈ own.map (·.2))
    (hg : ∀ (s : Shared) (H : Hp) (C : Addr) (cl : List (Str × Addr)) (fp : List Addr), DG (X.blk s H scope (compEnvC scope cl C X.env) fp) ws tg g)
    (ht : ∀ (s : Shared) (H : Hp) (C : Addr) (cl : List (Str × Addr)) (fp : List Addr), DTs (X.blk s H scope (compEnvC scope cl C X.env) fp) ifs tt)
    (hw : ∀ (s : Shared) (H : Hp) (C : Addr) (cl : List (Str × Addr)) (fp : List Addr) (D : Addr), WithinOk (X.blk s H scope (compEnvC scope cl C X.env) fp) elt (⟨tg, iter, ifs, 0⟩ :: rest) scope pos 1 D vs1 (LW X.K X.w (t D)))
    (hs : ∀ x, foldedSetIterable iter X.env x = pure x := by intro _; rfl) : DE X (.ListComp elt (⟨tg, iter, ifs, 0⟩ :: rest) scope pos) (dLcN ti g tt t (own.map (·.2))) := by
  refine ⟨peImp (pe_lcN (wi := LI X.K X.w ti) (g := LG X.K X.w ws g) (tt := LT X.K X.w tt) (t := fun D => LW X.K X.w (t D)) hc hN hi.pi ok hr hv (fun s H C cl fp => (hg s H C cl fp).pg) (fun s H C cl fp => (ht s H C cl fp).pts) hw hs) ?_⟩
  rintro σ H Q ⟨dσ, h, P, rs, rh, q, f⟩
  refine ⟨dσ, h, _, rs, rh, q, fun xs st h1 J H1 q1 k1 rh1 okJ L nL => ?_⟩
  have n := RH.newL (ds := []) (vs := []) rh1 nL rfl
  exact wGo_lift hw0 ((rs.keep (k1.trans n.1)).wipe _) n.2 (fun H2 h2 k2 rh2 s2 => okJ H2 h2 (n.1.trans k2) rh2 s2) (q1 L (rh1.free nL)) fun h' H' p k r => f _ _ _ _ p (k1.trans (n.1.trans k)) r rfl
theorem ds_setLcN {i : Nat} {y : Str} {py spos : Pos} {rest : List Comprehension} {tg iter : Expr} {ifs : List Expr} {own : List (Str × Nat)} {vs1 ws : List Nat} {ti : DTI} {g : DTG} {tt : DTT} {t : Addr → DWi} (hc : X.calm = true) (hN : X.N.Nodup) (hy : X.N[i]? = some y) (hyl : X.env.scope.names.lookup y = some .local)
    (hsw : swapsWith (.ListComp elt (⟨tg, iter, ifs, 0⟩ :: rest) scope pos) (some (.Name y py)) spos.line X.env = pure true) (hi : DI X tg iter ti) (ok : BlkOk X.N X.env.scope scope own)
    (hr : ∀ c ∈ rest, c.is_async = 0 ∧ ∀ env x, foldedSetIterable c.iter env x = pure x) (hv : ∀ i ∈ vs1, i ∈ own.map (·.2)) (hw0 : ∀ i ∈ ws, i ∈ own.map (·.2))
    (hg : ∀ (s : Shared) (H : Hp) (C : Addr) (cl : List (Str × Addr)) (fp : List Addr), DG (X.blk s H scope (compEnvC scope cl C X.env) fp) ws tg g)
    (ht : ∀ (s : Shared) (H : Hp) (C : Addr) (cl : List (Str × Addr)) (fp : List Addr), DTs (X.blk s H scope (compEnvC scope cl C X.env) fp) ifs tt)
    (hw : ∀ (s : Shared) (H : Hp) (C : Addr) (cl : List (Str × Addr)) (fp : List Addr) (D : Addr), WithinOk (X.blk s H scope (compEnvC scope cl C X.env) fp) elt (⟨tg, iter, ifs, 0⟩ :: rest) scope pos 1 D vs1 (LW X.K X.w (t D)))
    (hs : ∀ x, foldedSetIterable iter X.env x = pure x := by intro _; rfl) : DS X (.Assign [.Name y py] (.ListComp elt (⟨tg, iter, ifs, 0⟩ :: rest) scope pos) spos) (sAsg (dLcN ti g tt t (own.map (·.2))) (gNm i)) := by
  refine ⟨psImp (ps_setLcN hy hyl hsw hc hN (wi := LI X.K X.w ti) (g := LG X.K X.w ws g) (tt := LT X.K X.w tt) (t := fun D => LW X.K X.w (t D)) hi.pi ok hr hv (fun s H C cl fp => (hg s H C cl fp).pg) (fun s H C cl fp => (ht s H C cl fp).pts) hw hs) ?_⟩
  rintro Q σ H ⟨dσ, h, E, rs, rh, q, f⟩
  refine ⟨dσ, h, _, rs, rh, q, fun xs st h1 J H1 q1 k1 rh1 okJ L nL => ?_⟩
  have n := RH.newL (ds := []) (vs := []) rh1 nL rfl
  exact wGo_lift hw0 ((rs.keep (k1.trans n.1)).wipe _) n.2 (fun H2 h2 k2 rh2 s2 => okJ H2 h2 (n.1.trans k2) rh2 s2) (q1 L (rh1.free nL)) fun h' H' p k r => f.nx _ _ _ _ p (k1.trans (n.1.trans k)) r ((rs.keep (k1.trans (n.1.trans k))).set i rfl)
end
end DL
/-! D16: dicts: a display of one pair, the length, the keys walked. -/
namespace DL
open PySem PySem.Spec PyProof.Rows L2

section
variable {X : Cx} {pos : Pos}
/-- {k: v} -/
noncomputable def dDict1 (tk tv : DTE) : DTE := fun σ h P => fresh h (.dct []) fun p h1 => tk σ h1 fun y h2 => tv σ h2 fun z h3 => dctAt h3 p fun kvs => (isKey y ∧ kvs.length < sizeLine) ∧ P (.ref p) (put h3 p (.dct (dput kvs y z)))
theorem de_dict1 {k v : Expr} {tk tv : DTE} (hu : X.A.units + 64 < cLine) (hk : DE X k tk) (hv : DE X v tv) : DE X (.Dict [some k] [v] pos) (dDict1 tk tv) := by
  refine ⟨⟨fun pins s σ H Q I ⟨dσ, h, P, rs, rh, q, f⟩ => ?_⟩⟩
  rw [arm_eval_Dict, zip_pairTrees [some k] [v] X.env pos rfl rfl, dictDisplay_pairs (pairTrees [some k] [v] X.env pos) (fun z => by cases z) (by show 1 < 17; decide)]
  refine wpAny_bind (wpAny_standAt (wpAny_bind ?_))
  unfold subDict
  refine wpAny_bind (wpAny_alloc ?_)
  refine wpAny_bind (wpAny_holding ?_)
  rw [if_pos (show (pairTrees [some k] [v] X.env pos).length ≤ 15 from by show 1 ≤ 15; decide)]
  have nf : H s.heap.objs.size = none := I.hok.fresh (Nat.le_refl _)
  have q1 := q s.heap.objs.size (rh.free nf)
  have new : isDict X.w s.heap.objs.size [] (s.heap.push { cls := .type "dict", data := .dict #[] }) := ⟨_, #[], 0, Heap.get?_push_size _ rfl, ⟨rfl, rfl, rfl⟩, rfl, rfl⟩
  have kp : Keeps H (upd H s.heap.objs.size (.ext (isDict X.w s.heap.objs.size []))) := Keeps.new nf
  have I1 : L2.Inv X pins σ (upd H s.heap.objs.size (.ext (isDict X.w s.heap.objs.size []))) { s with heap := s.heap.push { cls := .type "dict", data := .dict #[] } } :=
    I.laid (a := s.heap.objs.size) (o := .ext (isDict X.w s.heap.objs.size [])) (t' := s.toks) (fun _ _ q => Heap.get?_push_of_some _ q) (Nat.le_refl _) (ext_ok new)
  have rh1 : RH X.K X.w (upd H s.heap.objs.size (.ext (isDict X.w s.heap.objs.size []))) (put h s.heap.objs.size (.dct [])) := rh.wr kp ⟨[], upd_same, beq_eq_false_iff_ne.mpr (Ne.symm (Nat.ne_of_lt I.big)), Nat.zero_le _, List.nodup_nil, .nil⟩
  refine wpAny_bind (pairTrees_cons_walk (thn (hk.pe.run pins _ σ _ (fun x H1 => ∃ y h1, Keeps (upd H s.heap.objs.size (.ext (isDict X.w s.heap.objs.size []))) H1 ∧ RH X.K X.w H1 h1 ∧ RD X.K X.w H1 y x ∧ tv dσ h1 fun z h3 => dctAt h3 s.heap.objs.size fun kvs => (isKey y ∧ kvs.length < sizeLine) ∧ P (.ref s.heap.objs.size) (put h3 s.heap.objs.size (.dct (dput kvs y z)))) I1
    ⟨dσ, _, _, rs.keep kp, rh1, q1, fun y h1 x H1 q1 k1 rh1 r1 => ⟨y, h1, k1, rh1, r1, q1⟩⟩) fun kv s1 ⟨x1, H1, I1, r1, y, h1, k1, rh1, rd1, q1⟩ => ?_))
  refine (thn (hv.pe.run pins _ σ _ (fun x H2 => ∃ z h2, Keeps H1 H2 ∧ RH X.K X.w H2 h2 ∧ RD X.K X.w H2 z x ∧ dctAt h2 s.heap.objs.size fun kvs => (isKey y ∧ kvs.length < sizeLine) ∧ P (.ref s.heap.objs.size) (put h2 s.heap.objs.size (.dct (dput kvs y z)))) I1
    ⟨dσ, h1, _, rs.keep (kp.trans k1), rh1, q1, fun z h2 x H2 q2 k2 rh2 r2 => ⟨z, h2, k2, rh2, r2, q2⟩⟩) fun vv s2 ⟨x2, H2, I2, r2, z, h2, k2, rh2, rd2, q2⟩ => ?_)
  refine pairTrees_nil_walk ?_
  obtain ⟨kvs, e, ⟨⟨key, hkey, dk⟩, hz⟩, q3⟩ := of_dctAt q2
  obtain ⟨xs, g, hS, hz2, re, m⟩ := rh2.dict I2 e
  have rdy := RD.keep k2 _ _ rd1
  refine wpAny_holding ?_
  rw [List.forIn_cons]
  refine wpAny_bind (wpAny_bind (wpAny_bind (set_g (by omega) (key_is I2 _ _ _ _ hkey rdy r1) dk m (by rw [← Paired.length re]; omega) fun h' new sb => ?_)))
  have n := dict_put (t' := s2.toks + key.draws) I2 rh2 e g hz re m.nd hS hkey dk r1 rdy r2 rd2 new sb
  refine wpAny_pure ?_
  dsimp only
  rw [List.forIn_nil]
  refine wpAny_pure (wpAny_pure (wpAny_pure (wpAny_pure ?_)))
  exact ⟨.ref s.heap.objs.size, _, n.1, rfl, f _ _ _ _ q3 (kp.trans (k1.trans (k2.trans n.2.1))) n.2.2 rfl⟩
end

/-! ### len of a dict -/
section
variable {prog : Program} {w : World} {A : Around} {E : Value → Shared → Prop} {s : Shared} {d : Addr} {xs : List Ent}
theorem meets_lenG (d : Addr) (hd : (d == sysModules) = false) : MeetsIn prog w (Builtin.«dict.__len__» ⟨[.ref d], []⟩) fun _ R s => ∃ xs, isDict w d xs s.heap ∧ R (.ok (.ret (.int xs.length s.toks))) { s with toks := s.toks + 1 } :=
  .of_wp fun A R s ⟨xs, m, h⟩ => by
    obtain ⟨o, es, ep, ho, hc, hdat, he⟩ := m
    show wpAny _ _ (dictSize d >>= _) _ _ s
    unfold dictSize
    refine wpAny_bind (wpAny_bind (wpAny_dictEntries ho hdat (wpAny_pure ?_)))
    show wpAny _ _ (Builtin.Dict.pendingCount d >>= _) _ _ s
    refine wpAny_bind (wpAny_pendingCount_other hd ?_)
    refine wpAny_ret_mkInt ?_
    rw [Nat.add_zero, es_size he]
    exact h
theorem len_g {Q : Value → Shared → Prop} (hd : (d == sysModules) = false) (m : DictG w s.heap d xs) (fit : (xs.length : Int) < 2 ^ 63) (h : Q (.int xs.length (s.toks + 1)) { s with toks := s.toks + 1 + 1 }) : wpAny (model prog w) A (call (.builtin "len") [.ref d]) Q E s := by
  refine Calls.call_function_entry kind_len plain_len entry_len (args_len1 _) ?_
  unfold Builtin.«len»
  refine wpAny_bind (m := oneArg "len" _) (wpAny_pure ?_)
  refine wpAny_bind (m := callSpecial? (.ref d) (Str.ofString "__len__")) (wpAny_callSpecial?_slot (name := Str.ofString "__len__") m.ty PySem.F.slot_dict_len
    (call_meetsIn PySem.F.slot_dict_len m.ty PySem.F.entry_dict_len (PySem.F.args_dict_len_1 _) (meets_lenG d hd) ⟨xs, m.ob, ?_⟩))
  show wpAny _ _ _ _ _ { s with toks := s.toks + 1 }
  refine wpAny_bind (wpAny_holding (wpAny_pure ?_))
  refine wpAny_bind (wpAny_letGo ?_)
  show wpAny _ _ (if ((xs.length : Nat) : Int) < 0 then _ else _) _ _ _
  rw [if_neg (by omega)]
  show wpAny _ _ (if ((xs.length : Nat) : Int) ≥ 2 ^ 63 then _ else _) _ _ _
  rw [if_neg (by omega)]
  exact wpAny_bind (wpAny_mkInt (wpAny_pure ⟨_, rfl, h⟩))
end
section
variable {X : Cx}
def dLenD : DRC
  | [d], h, P => dctV d h fun kvs => P (.int kvs.length) h
  | _, _, _ => False
theorem call_dLenD : DCall X (.builtin "len") dLenD := by
  intro pins s σ H xs us Q I rx q
  obtain ⟨ds, h, P, r, rh, q, f⟩ := q
  unfold dLenD at q
  split at q
  · obtain ⟨v, rfl, rv⟩ := r.one
    obtain ⟨u, rfl, ru⟩ := vals1 rx
    obtain ⟨a, kvs, es, rfl, hS, hz, re, m, q⟩ := dct_of rh I rv q
    cases ru
    have hl : es.length = kvs.length := (Paired.length re).symm
    have hz2 : kvs.length ≤ 9223372036854775807 := by rw [sizeLine_eq] at hz; omega
    exact len_g hS m (by omega) ⟨.int kvs.length, H, I.tok _, ⟨_, by rw [hl]⟩, f _ _ _ _ q (Keeps.refl _) rh rfl⟩
  · exact q.elim
end
end DL
/-! D17: a dict's keys walked: the dict is locked from then on. -/
namespace DL
open PySem PySem.Spec PyProof.Rows L2

/-- the keys of the locked dict at d, in their order -/
def Idk (w : World) (d : Addr) (o : Obj) (xs : List Ent) : It where
  go := fun i H => H d = some (.frz o (.ext (isDict w d xs))) ∧ ∃ e v, xs[i]? = some e ∧ RelV v e.2.1
  yld := fun i H v H' => H' = H ∧ ∃ e, xs[i]? = some e ∧ RelV v e.2.1
  stop := fun i H => H d = some (.frz o (.ext (isDict w d xs))) ∧ xs.length ≤ i
theorem obj_of {X : Cx} {pins : List (Addr × Obj)} {σ : L2.St} {H : Hp} {s : Shared} {d : Addr} {o : Obj} {xs : List Ent} (I : L2.Inv X pins σ H s) (h : H d = some (.frz o (.ext (isDict X.w d xs)))) :
    s.heap.get? d = some o ∧ o.ExactDict ∧ ∃ (es : Array DictEntry) (ep : Nat), o.data = .dict es ep ∧ es.size = xs.length ∧ ∀ (i : Nat), es[i]? = (xs[i]?).map (entG X.w) := by
  obtain ⟨h1, ⟨o', es, ep, h2, h3, h4, h5⟩, _⟩ := I.hok d _ h
  rw [h1] at h2
  cases h2
  exact ⟨h1, h3, es, ep, h4, es_size h5, es_at h5⟩
theorem turn_dk {P : Program} {w : World} {K : PySem.W.Frag} {tg : Expr} {d : Addr} {o : Obj} {es : Array DictEntry} {ep : Nat} {xs : List Ent} (it : Addr) (hod : o.data = .dict es ep) : Turn P w K tg (Idk w d o xs) [it] it (fun i h => h.IsKeyIter it d i xs.length ep) where
  mem := List.mem_cons_self
  obj := fun i h st b hb => by
    obtain ⟨oi, e, c, dd⟩ := st
    rw [List.mem_singleton.mp hb]
    exact ⟨oi, e, fun v z => by rw [dd] at z; cases z⟩
  keep := fun i h h' st k => st.at fun oi e => k it List.mem_cons_self oi e
  item := by
    intro X hP hw hK hc i pins s σ H E I hf st hg
    subst hP hw hK
    obtain ⟨hd, e, v, he, hv⟩ := hg
    obtain ⟨f0, f1, f2, f3, f4, f5⟩ := hf it List.mem_cons_self
    obtain ⟨g1, g2, es', ep', g3, g4, g5⟩ := obj_of I hd
    obtain ⟨rfl, rfl⟩ := dict_ep hod g3
    refine next_key_item st g1 g3 g4 (en := entG X.w e) (by rw [g5, he]; rfl) fun h' st' sb => ?_
    have I1 : L2.Inv X pins σ H { s with heap := h' } := I.turned (t' := s.toks) (fun b ob hb q => (sb.2 b hb).trans q) f0 f1 f3 f4 f5
    obtain ⟨oi, q, c, dd⟩ := id st'
    exact ⟨_, rfl, go_of (s := { s with heap := h' }) q c dd (by decide) ⟨v, H, I1, hv, ⟨rfl, e, he, hv⟩, st', fun b hb => (hf b hb).1⟩⟩
  done := by
    intro X hP hw hK hc i pins s σ H E I hf st hg
    subst hP hw hK
    obtain ⟨hd, hi⟩ := hg
    obtain ⟨f0, f1, f2, f3, f4, f5⟩ := hf it List.mem_cons_self
    obtain ⟨g1, g2, es', ep', g3, g4, g5⟩ := obj_of I hd
    obtain ⟨rfl, rfl⟩ := dict_ep hod g3
    exact next_key_end (I.ok.hd hc) st g1 g3 g4 hi fun h' eb => ⟨rfl, I.turned (t' := s.toks) (fun b ob hb q => eb b ob hb q) f0 f1 f3 f4 f5⟩
  self := fun A i s Q E st h => wpAny_pyIter_keyiter st h
section
variable {X : Cx} {tg e : Expr} {te : DTE}
theorem ok_dk {K : PySem.W.Frag} {w : World} {H1 : Hp} {a : Addr} {o : Obj} {xs : List Ent} {kvs : List (D × D)} (g : H1 a = some (.frz o (.ext (isDict w a xs)))) (re : REnts K w H1 kvs xs) : ItOk K w H1 (Idk w a o xs) (kvs.map (·.1)) (fun _ => True) := by
  intro H2 h2 k2 rh2 _
  have g2 := k2.2.1 _ _ _ g
  refine ⟨fun i d ed => ?_, g2, by rw [List.length_map, Paired.length re]; exact Nat.le_refl _⟩
  rw [List.getElem?_map] at ed
  obtain ⟨p, ep, rfl⟩ := Option.map_eq_some_iff.mp ed
  obtain ⟨x, ex, rx⟩ := paired_get re ep
  obtain ⟨v, rv, rd⟩ := rx.kv
  refine ⟨⟨g2, x, v, ex, rv⟩, fun y H' z => ?_⟩
  obtain ⟨rfl, x', ex', ry⟩ := z
  rw [ex] at ex'
  cases ex'
  rw [RelV.inj ry rv]
  exact ⟨Keeps.refl _, rh2, RD.keep k2 _ _ rd⟩
/-- for k in d -/
def iDk (te : DTE) : DTI := fun σ h P => te σ h fun d h1 => match d with
  | .ref a => rdct h1 a fun kvs => P (kvs.map (·.1)) (fun _ => True) (put h1 a (.ldc kvs))
  | .rod ks vs => ks.length = vs.length ∧ P ks (fun _ => True) h1
  | _ => False
theorem di_dk (he : DE X e te) : DI X tg e (iDk te) := by
  refine ⟨⟨fun pins s σ H R I q0 => ?_⟩⟩
  obtain ⟨dσ, h, P, rs, rh, q, f⟩ := q0
  refine thn (he.pe.run pins s σ H (fun x H1 => ∃ d h1, RD X.K X.w H1 d x ∧ RH X.K X.w H1 h1 ∧ Keeps H H1 ∧ match d with
    | .ref a => rdct h1 a fun kvs => P (kvs.map (·.1)) (fun _ => True) (put h1 a (.ldc kvs))
    | .rod ks vs => ks.length = vs.length ∧ P ks (fun _ => True) h1
    | _ => False) I ⟨dσ, h, _, rs, rh, q, fun d h1 v H1 q1 k1 rh1 r1 => ⟨d, h1, r1, rh1, k1, q1⟩⟩) fun v s1 ⟨x, H1, I1, r1, d, h1, rd, rh1, k1, q1⟩ => ?_
  split at q1
  · rename_i a
    cases rd
    cases r1
    obtain ⟨kvs, eh, q1⟩ := of_rdct q1
    rcases eh with eh | eh
    · obtain ⟨xs, g1, hS, hz, hn, re⟩ := rh1 a _ eh
      obtain ⟨od, I2⟩ := I1.lock g1 True.intro
      have kp : Keeps H1 (upd H1 a (.frz od (.ext (isDict X.w a xs)))) := Keeps.over g1 True.intro
      have rh2 : RH X.K X.w (upd H1 a (.frz od (.ext (isDict X.w a xs)))) (put h1 a (.ldc kvs)) := rh1.wr kp ⟨xs, od, upd_same, hS, hz, hn, re.keep kp⟩
      obtain ⟨o1, o2, es, ep, o3, o4, o5⟩ := obj_of I2 upd_same
      refine iter_keys hS o1 o2 o3 (pi_one (tk := s1.toks) I2 _ (turn_dk (xs := xs) _ o3) ⟨_, Heap.get?_push_size _ rfl, rfl, ?_⟩ (f _ _ _ _ _ q1 (k1.trans kp) rh2 (ok_dk upd_same (re.keep kp))))
      rw [o4] <;> rfl
    · obtain ⟨xs, od, g1, hS, hz, hn, re⟩ := rh1 a _ eh
      have rh2 : RH X.K X.w H1 (put h1 a (.ldc kvs)) := fun b ob z => by
        by_cases zb : b = a
        · subst zb; rw [put_same] at z; cases z; exact ⟨xs, od, g1, hS, hz, hn, re⟩
        · rw [put_ne zb] at z; exact rh1 b ob z
      obtain ⟨o1, o2, es, ep, o3, o4, o5⟩ := obj_of I1 g1
      refine iter_keys hS o1 o2 o3 (pi_one (tk := s1.toks) I1 _ (turn_dk (xs := xs) _ o3) ⟨_, Heap.get?_push_size _ rfl, rfl, ?_⟩ (f _ _ _ _ _ q1 k1 rh2 (ok_dk g1 re)))
      rw [o4] <;> rfl
  · rename_i ks ws
    obtain ⟨a, od, xs, us, vs, rfl, g1, hS, hz, hn, t1, t2, t3⟩ := rd
    cases r1
    obtain ⟨hl, q1⟩ := q1
    obtain ⟨re, _⟩ := ents_zip t1 t2 t3
    obtain ⟨o1, o2, es, ep, o3, o4, o5⟩ := obj_of I1 g1
    refine iter_keys hS o1 o2 o3 (pi_one (tk := s1.toks) I1 _ (turn_dk (w := X.w) (d := a) (xs := xs) _ o3) ⟨_, Heap.get?_push_size _ rfl, rfl, ?_⟩ (f _ _ _ _ _ q1 k1 rh1 ?_))
    · rw [o4] <;> rfl
    · have z := ok_dk g1 re
      rw [show (ks.zip ws).map (·.1) = ks from List.map_fst_zip (by omega)] at z
      exact z
  · exact q1.elim
end
end DL
/-! D18: d.update(e), e a dict. -/
namespace DL
open PySem PySem.Spec PyProof.Rows L2

section
variable {prog : Program} {w : World} {A : Around} {E : Value → Shared → Prop} {s : Shared} {d b : Addr} {xs ys : List Ent} {k : NestedKey} {v : Value}
/-- the store, the hash at hand -/
theorem set_gH {u : Value} {Q : Unit → Shared → Prop} (hu : A.units + 8 < cLine) (hv : NestedIs s.heap k v) (hk : k.depth ≤ 7) (m : DictG w s.heap d xs) (hz : xs.length ≤ sizeLine)
    (h : ∀ h', isDict w d (setE xs k v u) h' → Heap.SameBut d s.heap h' → Q () { s with heap := h' }) : wpAny (model prog w) A (dictSetHashed d v (k.hash w) u) Q E s := by
  obtain ⟨⟨o, es, ep, ho, hc, hd, he⟩, his, hn⟩ := m
  have hs := es_size he
  unfold dictSetHashed
  try with_reducible refine wpAny_holding ?_
  refine wpAny_bind (find_g hu hv hk ho hd he his hn ?_)
  cases q : ixOf xs k with
  | none =>
    refine wpAny_bind (wpAny_rule (wpAny_updateDictKeys (hz := by omega) ho hd (h _ ⟨_, _, ep + 1, Heap.get?_update_self _ ho (Obj.isFreed_of_dict (Obj.data_mapDictKeys hd _)), hc.mapDictKeys _, Obj.data_mapDictKeys hd _, ?_⟩ (Heap.SameBut.update ..))))
    unfold setE
    rw [q]
    simp [he]
  | some i =>
    refine wpAny_bind (wpAny_rule (wpAny_bind (wpAny_updateDict ho hd (wpAny_point (h _ ⟨_, _, ep, Heap.get?_update_self _ ho (Obj.isFreed_of_dict (Obj.data_mapDict hd _)), hc.mapDict _, Obj.data_mapDict hd _, ?_⟩ (Heap.SameBut.update ..))))))
    unfold setE
    rw [q]
    rw [Array.toList_modify, he]
    refine List.ext_getElem? fun j => ?_
    rw [List.getElem?_modify, List.getElem?_map, List.getElem?_map, List.getElem?_modify]
    cases xs[j]? with
    | none => rfl
    | some x => by_cases z : i = j <;> simp [z]
/-- the entries behind an update -/
def mergeE (xs ys : List Ent) : List Ent := ys.foldl (fun acc e => setE acc e.1 e.2.1 e.2.2) xs
theorem mergeE_snoc {xs ys : List Ent} {i : Nat} {e : Ent} (h : ys[i]? = some e) : mergeE xs (ys.take (i + 1)) = setE (mergeE xs (ys.take i)) e.1 e.2.1 e.2.2 := by
  unfold mergeE
  rw [List.take_add_one, h, List.foldl_append]
  rfl
end

/-- the entries behind an update, over data -/
noncomputable def putAll (kvs more : List (D × D)) : List (D × D) := more.foldl (fun acc p => dput acc p.1 p.2) kvs
theorem putAll_snoc {kvs more : List (D × D)} {i : Nat} {p : D × D} (h : more[i]? = some p) : putAll kvs (more.take (i + 1)) = dput (putAll kvs (more.take i)) p.1 p.2 := by
  unfold putAll
  rw [List.take_add_one, h, List.foldl_append]
  rfl
theorem putAll_len (kvs more : List (D × D)) : (putAll kvs more).length ≤ kvs.length + more.length := by
  unfold putAll
  induction more generalizing kvs with
  | nil => exact Nat.le_refl _
  | cons p r ih =>
    rw [List.foldl_cons, List.length_cons]
    have h1 := ih (dput kvs p.1 p.2)
    have h2 := dput_length kvs p.1 p.2
    omega
section
variable {X : Cx} {pins : List (Addr × Obj)} {σ : L2.St}
theorem merge_loop {A : Around} {E : Value → Shared → Prop} {H : Hp} {s : Shared} {h : DH} {a b : Addr} {kvs more : List (D × D)} {nm : String} {Q : Unit → Shared → Prop} (hu : A.units + 16 < cLine) (I : L2.Inv X pins σ H s) (rh : RH X.K X.w H h)
    (ea : h a = some (.dct kvs)) (eb : ∃ ys, (b == sysModules) = false ∧ more.length ≤ sizeLine ∧ REnts X.K X.w H more ys ∧ DictG X.w s.heap b ys) (ne : a ≠ b) (go : kvs ≠ [] ∨ more = []) (hz : kvs.length + more.length ≤ sizeLine)
    (hQ : ∀ s' H', L2.Inv X pins σ H' s' → Keeps H H' → RH X.K X.w H' (put h a (.dct (putAll kvs more))) → Q () s') : wpAny (model X.prog X.w) A (Builtin.Dict.mergeDict nm a b) Q E s := by
  obtain ⟨xs, g1, hS1, hz1, re1, m1⟩ := rh.dict I ea
  obtain ⟨ys, hS2, hz2, re2, m2⟩ := eb
  obtain ⟨oa, esa, epa, hoa, hca, hda, hea⟩ := id m1.ob
  obtain ⟨ob, esb, epb, hob, hcb, hdb, heb⟩ := id m2.ob
  have lb : esb.size = more.length := by rw [es_size heb]; exact (Paired.length re2).symm
  have la : esa.size = kvs.length := by rw [es_size hea]; exact (Paired.length re1).symm
  have start : RH X.K X.w H (put h a (.dct (putAll kvs (more.take 0)))) := by
    have e : put h a (.dct (putAll kvs (more.take 0))) = h := by
      funext c
      by_cases z : c = a
      · rw [z, put_same, ea]; rfl
      · rw [put_ne z]
    rw [e]; exact rh
  unfold Builtin.Dict.mergeDict
  rw [if_neg (by simpa using ne)]
  unfold Builtin.Dict.showsAll
  rw [if_neg (by rw [hS2]; exact Bool.false_ne_true)]
  refine wpAny_bind (wpAny_pure ?_)
  refine wpAny_bind (wpAny_dictEntries hob hdb ?_)
  dsimp only
  split
  · rename_i hfew
    refine wpAny_bind (wpAny_dictEntries hoa hda ?_)
    split
    · rename_i hemp
      exfalso
      have h0 : esa = #[] := Array.isEmpty_iff.mp hemp
      have hk : kvs = [] := List.length_eq_zero_iff.mp (by rw [← la, h0]; rfl)
      have hm : more = [] := go.resolve_left fun z => z hk
      have h1 : esb = #[] := Array.eq_empty_of_size_eq_zero (by rw [lb, hm]; rfl)
      rw [h1] at hfew
      simp at hfew
    · refine wpAny_bind (wpAny_dictEpoch hob hdb ?_)
      refine wpAny_bind (wpAny_dictEntries hob hdb ?_)
      refine wpAny_bind ?_
      rw [Std.Legacy.Range.forIn_eq_forIn_range']
      simp only [Std.Legacy.Range.size, Nat.sub_zero, Nat.add_sub_cancel, Nat.div_one]
      refine wpAny_forIn_list _ (fun rest _ s' => ∃ H' i, rest = List.range' i (esb.size - i) ∧ i ≤ esb.size ∧ L2.Inv X pins σ H' s' ∧ Keeps H H' ∧ RH X.K X.w H' (put h a (.dct (putAll kvs (more.take i)))) ∧ s'.heap.get? b = some ob) _ ?_ ?_ _ _
        ⟨H, 0, by simp, Nat.zero_le _, I, Keeps.refl _, start, hob⟩
      · rintro x rest _ s' ⟨H', i, hr, hi, I', k', rh', hb'⟩
        have hlt : i < esb.size := by
          rcases Nat.lt_or_ge i esb.size with z | z
          · exact z
          · rw [Nat.sub_eq_zero_of_le z] at hr; simp at hr
        obtain ⟨rfl, hrest⟩ : x = i ∧ rest = List.range' (i + 1) (esb.size - (i + 1)) := by
          have e : esb.size - i = (esb.size - (i + 1)) + 1 := by omega
          rw [e, List.range'_succ] at hr
          injection hr with h1 h2
          exact ⟨h1, h2⟩
        refine wpAny_bind (wpAny_dictEntries hb' hdb ?_)
        have hm : x < more.length := by omega
        obtain ⟨y, ey, ry⟩ := paired_get re2 (List.getElem?_eq_getElem hm)
        rw [es_at heb, ey]
        obtain ⟨vk, rk, rdk⟩ := ry.kv
        obtain ⟨vv, rv, rdv⟩ := ry.vv
        have len : (putAll kvs (more.take x)).length < sizeLine := by
          have h1 := putAll_len kvs (more.take x)
          rw [List.length_take] at h1
          omega
        obtain ⟨zs, g', hS', hz', re', m'⟩ := rh'.dict I' put_same
        show wpAny _ _ (holding [y.2.1, y.2.2] (dictSetHashed a y.2.1 (y.1.hash X.w) y.2.2) >>= _) _ _ _
        refine wpAny_bind (wpAny_holding (set_gH (by omega) (key_is I' _ _ _ _ ry.key (RD.keep k' _ _ rdk) rk) ry.deep m' (by rw [← Paired.length re']; omega) fun h' new sb => ?_))
        have n := dict_put (t' := s'.toks) I' rh' put_same g' len re' m'.nd hS' ry.key ry.deep rk (RD.keep k' _ _ rdk) rv (RD.keep k' _ _ rdv) new sb
        have hb2 : h'.get? b = some ob := (sb.2 b ne.symm).trans hb'
        refine wpAny_bind (wpAny_dictEpoch hb2 hdb ?_)
        rw [if_neg (by simp)]
        refine wpAny_pure ⟨_, x + 1, hrest, hlt, n.1, k'.trans n.2.1, ?_, hb2⟩
        have z := n.2.2
        rw [put_put, ← putAll_snoc (List.getElem?_eq_getElem hm)] at z
        exact z
      · rintro _ s' ⟨H', i, hr, hi, I', k', rh', hb'⟩
        have hin : i = esb.size := by
          rcases Nat.lt_or_ge i esb.size with z | z
          · have e : esb.size - i = (esb.size - (i + 1)) + 1 := by omega
            rw [e, List.range'_succ] at hr
            exact nomatch hr
          · exact Nat.le_antisymm hi z
        rw [hin, lb, List.take_length] at rh'
        exact wpAny_pure (hQ s' H' I' k' rh')
  · refine wpAny_bind (wpAny_dictEpoch hob hdb ?_)
    refine wpAny_bind (wpAny_dictEntries hob hdb ?_)
    refine wpAny_bind ?_
    rw [Std.Legacy.Range.forIn_eq_forIn_range']
    simp only [Std.Legacy.Range.size, Nat.sub_zero, Nat.add_sub_cancel, Nat.div_one]
    refine wpAny_forIn_list _ (fun rest _ s' => ∃ H' i, rest = List.range' i (esb.size - i) ∧ i ≤ esb.size ∧ L2.Inv X pins σ H' s' ∧ Keeps H H' ∧ RH X.K X.w H' (put h a (.dct (putAll kvs (more.take i)))) ∧ s'.heap.get? b = some ob) _ ?_ ?_ _ _
      ⟨H, 0, by simp, Nat.zero_le _, I, Keeps.refl _, start, hob⟩
    · rintro x rest _ s' ⟨H', i, hr, hi, I', k', rh', hb'⟩
      have hlt : i < esb.size := by
        rcases Nat.lt_or_ge i esb.size with z | z
        · exact z
        · rw [Nat.sub_eq_zero_of_le z] at hr; simp at hr
      obtain ⟨rfl, hrest⟩ : x = i ∧ rest = List.range' (i + 1) (esb.size - (i + 1)) := by
        have e : esb.size - i = (esb.size - (i + 1)) + 1 := by omega
        rw [e, List.range'_succ] at hr
        injection hr with h1 h2
        exact ⟨h1, h2⟩
      refine wpAny_bind (wpAny_dictEntries hb' hdb ?_)
      have hm : x < more.length := by omega
      obtain ⟨y, ey, ry⟩ := paired_get re2 (List.getElem?_eq_getElem hm)
      rw [es_at heb, ey]
      obtain ⟨vk, rk, rdk⟩ := ry.kv
      obtain ⟨vv, rv, rdv⟩ := ry.vv
      have len : (putAll kvs (more.take x)).length < sizeLine := by
        have h1 := putAll_len kvs (more.take x)
        rw [List.length_take] at h1
        omega
      obtain ⟨zs, g', hS', hz', re', m'⟩ := rh'.dict I' put_same
      show wpAny _ _ (holding [y.2.1, y.2.2] (dictSetHashed a y.2.1 (y.1.hash X.w) y.2.2) >>= _) _ _ _
      refine wpAny_bind (wpAny_holding (set_gH (by omega) (key_is I' _ _ _ _ ry.key (RD.keep k' _ _ rdk) rk) ry.deep m' (by rw [← Paired.length re']; omega) fun h' new sb => ?_))
      have n := dict_put (t' := s'.toks) I' rh' put_same g' len re' m'.nd hS' ry.key ry.deep rk (RD.keep k' _ _ rdk) rv (RD.keep k' _ _ rdv) new sb
      have hb2 : h'.get? b = some ob := (sb.2 b ne.symm).trans hb'
      refine wpAny_bind (wpAny_dictEpoch hb2 hdb ?_)
      rw [if_neg (by simp)]
      refine wpAny_pure ⟨_, x + 1, hrest, hlt, n.1, k'.trans n.2.1, ?_, hb2⟩
      have z := n.2.2
      rw [put_put, ← putAll_snoc (List.getElem?_eq_getElem hm)] at z
      exact z
    · rintro _ s' ⟨H', i, hr, hi, I', k', rh', hb'⟩
      have hin : i = esb.size := by
        rcases Nat.lt_or_ge i esb.size with z | z
        · have e : esb.size - i = (esb.size - (i + 1)) + 1 := by omega
          rw [e, List.range'_succ] at hr
          exact nomatch hr
        · exact Nat.le_antisymm hi z
      rw [hin, lb, List.take_length] at rh'
      exact wpAny_pure (hQ s' H' I' k' rh')
end

section
variable {X : Cx}
noncomputable def dUpdate : DRM
  | .ref a, [d], h, P => dctAt h a fun kvs => dctV d h fun more => (d ≠ .ref a ∧ (kvs ≠ [] ∨ more = []) ∧ kvs.length + more.length ≤ sizeLine) ∧ P .non (put h a (.dct (putAll kvs more)))
  | _, _, _, _ => False
theorem mt_dUpdate (hu : X.A.units + 64 < cLine) : MtR X "dict.update" (LM X.K X.w dUpdate) := by
  intro pins s σ H x xs v us Q I rx rs q
  obtain ⟨d, ds, h, P, r1, r2, rh, q, f⟩ := q
  unfold dUpdate at q
  split at q
  · rename_i a de
    cases r1
    obtain ⟨u1, rfl, ru⟩ := r2.one
    obtain ⟨kvs, ea, q⟩ := of_dctAt q
    have apart : de ≠ .ref a → ∀ b, u1 = .ref b → a ≠ b := fun hne b hb z => by
      subst hb z
      cases de with
      | ref a2 => cases ru; exact hne rfl
      | rod ks vs =>
        obtain ⟨a2, o, xs, us, vs, e1, g, _⟩ := ru
        cases e1
        obtain ⟨ys, g2, _⟩ := rh _ _ ea
        rw [g] at g2
        cases g2
      | _ => exact q.elim
    obtain ⟨b, more, ys, rfl, hS2, hz2, re2, m2, ⟨ne0, go, hz⟩, q⟩ := dct_of rh I ru q
    have ne : a ≠ b := apart ne0 b rfl
    obtain ⟨u2, rfl, rv⟩ := vals1 rs
    cases rx
    cases rv
    obtain ⟨xs, g1, hS1, hz1, re1, m1⟩ := rh.dict I ea
    refine call_meetsIn PySem.F.slot_dict_update m1.ty PySem.F.entry_dict_update (PySem.F.args_dict_update_2 _ _)
      (S := fun A' R s' => A' = X.A ∧ s' = s ∧ ∀ s2 H', L2.Inv X pins σ H' s2 → Keeps H H' → RH X.K X.w H' (put h a (.dct (putAll kvs more))) → R (.ok (.ret .none)) s2) (fun A' R s' z => ?_)
      ⟨rfl, rfl, fun s2 H' I2 k2 rh2 => ⟨.non, H', I2, rfl, f _ _ _ _ q k2 rh2 rfl⟩⟩
    obtain ⟨rfl, rfl, z⟩ := z
    unfold Builtin.«dict.update»
    refine wpAny_bind ?_
    unfold Builtin.Dict.selfAndRest
    refine wpAny_bind (wpAny_notOrdered_dict m1.ty ?_)
    show wpAny _ _ (pure (a, [Value.ref b])) _ _ _
    refine wpAny_pure ?_
    show wpAny _ _ (Builtin.Dict.updateFrom "dict.update" a (.ref b) [] .none) _ _ _
    unfold Builtin.Dict.updateFrom
    refine wpAny_bind (wpAny_typeOf m2.ty ?_)
    rw [if_neg (by decide)]
    refine wpAny_bind ?_
    unfold Builtin.Dict.merge
    refine wpAny_bind ?_
    unfold Builtin.Dict.readDirectly
    refine wpAny_bind (wpAny_isInstance m2.ty isSubtype_dict_dict ?_)
    simp only [Bool.not_true, Bool.false_eq_true, if_false]
    refine wpAny_bind (wpAny_specialOf m2.ty PySem.F.slot_dict_iter.lookup (wpAny_pure ?_))
    simp only [beq_self_eq_true, if_true]
    refine wpAny_bind (wpAny_pure ?_)
    refine merge_loop (by rw [Around.in1_units]; omega) I rh ea ⟨ys, hS2, hz2, re2, m2⟩ ne go hz fun s2 H' I2 k2 rh2 => ?_
    show wpAny _ _ (Builtin.Dict.addKeywords a [] >>= _) _ _ _
    exact wpAny_bind (wpAny_pure (wpAny_pure (z s2 H' I2 k2 rh2)))
  · exact q.elim
end
end DL
/-! D19: dict(list of pairs). -/
namespace DL
open PySem PySem.Spec PyProof.Rows L2

abbrev pairT (p : D × D) : D := .tup [p.1, p.2]
/-- the list l gives these, whatever is done to S -/
def Src (X : Cx) (l S : Addr) (ds : List D) (H : Hp) (h : DH) : Prop := ∀ (H' : Hp) (o : DO), Keeps H H' → RH X.K X.w H' (put h S o) → ∃ vs, SqL X.K H' l vs ∧ RDs X.K X.w H' ds vs
theorem Src.step {X : Cx} {l S : Addr} {ds : List D} {H H1 : Hp} {h : DH} {o : DO} (s : Src X l S ds H h) (k : Keeps H H1) : Src X l S ds H1 (put h S o) := fun H' o' k' r => s H' o' (k.trans k') (by
  have e : put (put h S o) S o' = put h S o' := by funext b; unfold put; split <;> rfl
  rw [e] at r; exact r)
theorem Src.now {X : Cx} {l S : Addr} {ds : List D} {H : Hp} {h : DH} {o : DO} (s : Src X l S ds H h) (rh : RH X.K X.w H h) (e : h S = some o) : ∃ vs, SqL X.K H l vs ∧ RDs X.K X.w H ds vs := s H o (Keeps.refl H) (by
  have z : put h S o = h := by
    funext b
    by_cases q : b = S
    · rw [q, put_same, e]
    · rw [put_ne q]
  rw [z]; exact rh)
section
variable {X : Cx} {pins : List (Addr × Obj)} {σ : L2.St}
/-- the walk over the pairs: S the new dict, T the iterator, l the list -/
theorem pairs_loop {A : Around} {R : Result → Shared → Prop} {S T l : Addr} {ps : List (D × D)} (hu : A.units + 16 < cLine) (hh : A.handled = none) (hz : ps.length ≤ sizeLine) (hk : ∀ p ∈ ps, isKey p.1) :
    ∀ (n i : Nat) (H : Hp) (h : DH) (ix : Int) (t : Tok) (s : Shared), ps.length = i + n → L2.Inv X pins σ H s → FpOk X pins H T → s.heap.IsListIter T l i → RH X.K X.w H h → h S = some (.dct (putAll [] (ps.take i))) → Src X l S (ps.map pairT) H h → S ≠ l →
      (∀ s' H', L2.Inv X pins σ H' s' → Keeps H H' → RH X.K X.w H' (put h S (.dct (putAll [] ps))) → R (.ok (.ret .none)) s') →
      codeAny (model X.prog X.w) A (.builtin "dict.update.loop" ⟨[.ref S, .ref T, .int ix t, .none], []⟩) R s
  | 0, i, H, h, ix, t, s, hn, I, fo, hit, rh, hS, hl, ne, fin => by
    obtain ⟨f0, f1, f2, f3, f4, f5⟩ := fo
    obtain ⟨vs, g1, t1⟩ := hl.now rh hS
    obtain ⟨its, rv, pl, _⟩ := I.list g1
    have sz : its.toArray.size = i := by
      rw [List.size_toArray, ← rv.length, t1.length, List.length_map]
      omega
    refine codeAny_builtin ud_entry ?_
    rw [Around.under_plainId ud_plain _]
    show wpAny _ A.in1 (pyNext (.ref T) >>= _) _ _ s
    refine wpAny_bind (wpAny_pyNext_list_end (A := A.in1) hh hit pl.isList (Array.getElem?_eq_none (by omega)) fun h' he => ?_)
    show wpAny _ A.in1 (Builtin.Dict.addKeywords S [] >>= _) _ _ _
    refine wpAny_bind (wpAny_pure (wpAny_pure ?_))
    have same : put h S (.dct (putAll [] ps)) = h := by
      funext c
      by_cases z : c = S
      · rw [z, put_same, hS, List.take_of_length_le (by omega)]
      · rw [put_ne z]
    exact fin _ H (I.turned (t' := s.toks) (fun b o hb e => he b o hb e) f0 f1 f3 f4 f5) (Keeps.refl _) (by rw [same]; exact rh)
  | n + 1, i, H, h, ix, t, s, hn, I, fo, hit, rh, hS, hl, ne, fin => by
    obtain ⟨f0, f1, f2, f3, f4, f5⟩ := id fo
    have hi : i < ps.length := by omega
    obtain ⟨vs, g1, t1⟩ := hl.now rh hS
    obtain ⟨its, rv, pl, _⟩ := I.list g1
    obtain ⟨v, ev, rd⟩ := t1.get (show (ps.map pairT)[i]? = some (pairT ps[i]) by rw [List.getElem?_map, List.getElem?_eq_getElem hi]; rfl)
    obtain ⟨u, eu, ru⟩ := rv.get ev
    obtain ⟨b, ws, rfl, sq, tw⟩ := rd
    obtain rfl : u = .ref b := ru
    refine codeAny_builtin ud_entry ?_
    rw [Around.under_plainId ud_plain _]
    show wpAny _ A.in1 (pyNext (.ref T) >>= _) _ _ s
    refine wpAny_bind (wpAny_pyNext_list_item (x := .ref b) hit pl.isList (by simpa using eu) fun h1 hit1 hs1 => ?_)
    have I1 : L2.Inv X pins σ H { s with heap := h1 } := I.turned (t' := s.toks) (fun c o hb e => (hs1.2 c hb).trans e) f0 f1 f3 f4 f5
    obtain ⟨its2, rv2, tp, _⟩ := I1.tuple sq
    obtain ⟨w1, w2, rfl, r1, r2⟩ := tw.two
    obtain ⟨ku, vu, rfl, q1, q2⟩ := vals2 rv2
    obtain ⟨key, hkey, dk⟩ := hk _ (List.getElem_mem hi)
    obtain ⟨xs, gS, hS1, hz1, re, m⟩ := rh.dict I1 hS
    obtain ⟨o, ho, hc, k, hd⟩ := id tp
    show wpAny _ A.in1 (holding [Value.ref b] _ >>= _) _ _ _
    refine wpAny_bind (wpAny_holding ?_)
    refine wpAny_bind (wpAny_tryCatch ?_)
    unfold Builtin.Dict.pairItems
    refine wpAny_bind (wpAny_typeOf (T := "tuple") ⟨o, ho, hc⟩ ?_)
    rw [if_pos (by first | decide | rfl | simp)]
    refine wpAny_bind (wpAny_seqItems ho hd (wpAny_pure ?_))
    show wpAny _ A.in1 (holding [ku, vu] (dictSet S ku vu)) _ _ _
    have len : (putAll [] (ps.take i)).length < sizeLine := by
      have z := putAll_len [] (ps.take i)
      rw [List.length_take, List.length_nil] at z
      omega
    refine wpAny_holding (set_g (by rw [Around.in1_units]; omega) (key_is I1 _ _ _ _ hkey r1 q1) dk m (by rw [← Paired.length re]; omega) fun h2 new sb => ?_)
    have nx := dict_put (t' := s.toks + key.draws) I1 rh hS gS len re m.nd hS1 hkey dk q1 r1 q2 r2 new sb
    have nTS : S ≠ T := fun z => by rw [z, f0] at gS; cases gS
    refine wpAny_pure ⟨plainId_quiet ud_plain _, pairs_loop hu hh hz hk n (i + 1) _ _ (ix + 1) 0 _ (by omega) nx.1 ⟨by rw [upd_ne nTS.symm]; exact f0, f1, f2, f3, f4, f5⟩ ?_ nx.2.2 ?_ ?_ ne fun s' H' J k' r' => ?_⟩
    · exact hit1.at fun o' e => (sb.2 T nTS.symm).trans e
    · rw [put_same, putAll_snoc (List.getElem?_eq_getElem hi)]
    · exact hl.step nx.2.1
    · rw [put_put] at r'
      exact fin s' H' J (nx.2.1.trans k') r'
end

theorem seq_src {X : Cx} {H : Hp} {h : DH} {d : D} {v : V} {k : List D → Prop} (rh : RH X.K X.w H h) (r : RD X.K X.w H d v) (q : seqAt d h k) :
    ∃ l vs xs, v = .ref l ∧ SqL X.K H l vs ∧ RDs X.K X.w H xs vs ∧ k xs ∧ ∀ S, S ≠ l → Src X l S xs H h := by
  unfold seqAt at q
  cases d with
  | ref a =>
    cases r
    obtain ⟨xs, e, q⟩ := of_lstAt q
    obtain ⟨vs, g, t⟩ := rh.lst e
    refine ⟨a, vs, xs, rfl, SqL.of g, t, q, fun S hS H' o k' r' => ?_⟩
    obtain ⟨vs', g', t'⟩ := r'.lst (show put h S o a = some (.lst xs) by rw [put_ne hS.symm]; exact e)
    exact ⟨vs', SqL.of g', t'⟩
  | rol xs =>
    obtain ⟨a, vs, rfl, s, t⟩ := r
    exact ⟨a, vs, xs, rfl, s.sq, t, q, fun S hS H' o k' r' => ⟨vs, (SqF.keep k' s).sq, RDs.keep k' _ _ t⟩⟩
  | _ => exact q.elim
section
variable {X : Cx}
/-- dict(xs), xs a list of pairs -/
noncomputable def dDictOf : DRC
  | [d], h, P => seqAt d h fun xs => ∃ ps : List (D × D), xs = ps.map pairT ∧ (∀ p ∈ ps, isKey p.1) ∧ ps.length ≤ sizeLine ∧ fresh h (.dct (putAll [] ps)) fun p h' => P (.ref p) h'
  | _, _, _ => False
theorem call_dDictOf (hu : X.A.units + 64 < cLine) (hcalm : X.calm = true) : DCall X (.type "dict") dDictOf := by
  intro pins s σ H xs us Q I rx q
  obtain ⟨ds, h, P, r, rh, q, f⟩ := q
  unfold dDictOf at q
  split at q
  · obtain ⟨v, rfl, rv⟩ := r.one
    obtain ⟨u, rfl, ru⟩ := vals1 rx
    obtain ⟨l, vs, ys, rfl, g1, t1, ⟨ps, rfl, hk, hz, q⟩, src⟩ := seq_src rh rv q
    cases ru
    obtain ⟨its, rv2, ⟨ol, n, hl, hlc, hld, hldt⟩, _⟩ := I.list g1
    have hh := I.ok.hd hcalm
    have nf : H s.heap.objs.size = none := I.hok.fresh (Nat.le_refl _)
    refine callType_codes (Q₁ := fun obj s₁ => obj = .ref s.heap.objs.size ∧ s₁ = { s with heap := s.heap.push { cls := .type "dict", data := .dict #[] } }) PySem.F.kt_called_dict (PySem.F.kt_typeCall_dict_1 _) PySem.F.entry_dict_init (kt_code_dict_new _ ⟨rfl, rfl⟩) ?_
    rintro obj s₁ ⟨rfl, rfl⟩
    have k0 : ∀ b o, s.heap.get? b = some o → (s.heap.push { cls := .type "dict", data := .dict #[] }).get? b = some o := fun b o e => Heap.get?_push_of_some _ e
    have new : isDict X.w s.heap.objs.size [] (s.heap.push { cls := .type "dict", data := .dict #[] }) := ⟨_, #[], 0, Heap.get?_push_size _ rfl, ⟨rfl, rfl, rfl⟩, rfl, rfl⟩
    have kp : Keeps H (upd H s.heap.objs.size (.ext (isDict X.w s.heap.objs.size []))) := Keeps.new nf
    have I1 : L2.Inv X pins σ (upd H s.heap.objs.size (.ext (isDict X.w s.heap.objs.size []))) { s with heap := s.heap.push { cls := .type "dict", data := .dict #[] } } :=
      I.laid (a := s.heap.objs.size) (o := .ext (isDict X.w s.heap.objs.size [])) (t' := s.toks) (fun _ _ q => Heap.get?_push_of_some _ q) (Nat.le_refl _) (ext_ok new)
    have rh1 : RH X.K X.w (upd H s.heap.objs.size (.ext (isDict X.w s.heap.objs.size []))) (put h s.heap.objs.size (.dct [])) := rh.wr kp ⟨[], upd_same, beq_eq_false_iff_ne.mpr (Ne.symm (Nat.ne_of_lt I.big)), Nat.zero_le _, List.nodup_nil, .nil⟩
    have ty : Shared.TypeIs { s with heap := s.heap.push { cls := .type "dict", data := .dict #[] } } (.ref s.heap.objs.size) "dict" := ⟨_, Heap.get?_push_size _ rfl, rfl⟩
    refine ⟨ty, PySem.F.args_dict_init_2 _ _, ?_⟩
    unfold Builtin.«dict.__init__»
    refine wpAny_bind ?_
    unfold Builtin.Dict.selfAndRest
    refine wpAny_bind (wpAny_notOrdered_dict ty ?_)
    show wpAny _ _ (pure (s.heap.objs.size, [Value.ref l])) _ _ _
    refine wpAny_pure ?_
    show wpAny _ _ (Builtin.Dict.updateFrom "dict.__init__" s.heap.objs.size (.ref l) [] .none) _ _ _
    unfold Builtin.Dict.updateFrom
    refine wpAny_bind (wpAny_typeOf (T := "list") ⟨_, k0 _ _ hl, hlc⟩ ?_)
    rw [if_pos (by first | decide | rfl | simp)]
    refine wpAny_bind (miss_list (k0 _ _ hl) hlc hldt hld hh fun h1 tk1 hk1 => ?_)
    rw [if_pos (show (none : Option Value).isNone = true from rfl)]
    refine wpAny_bind (wpAny_rule ?_)
    have I2 : L2.Inv X pins σ (upd H s.heap.objs.size (.ext (isDict X.w s.heap.objs.size []))) { s with heap := h1, toks := tk1 } := I1.kept hk1
    have hl1 : h1.IsList l its.toArray := ⟨_, hk1 _ _ (k0 _ _ hl), hlc, n, hldt⟩
    refine wpAny_bind (wpAny_pyIter_list hl1 ?_)
    have I3 : L2.Inv X pins σ (upd H s.heap.objs.size (.ext (isDict X.w s.heap.objs.size []))) { s with heap := h1.push { cls := .type "list_iterator", data := .fields #[.ref l, .int 0 0] }, toks := tk1 } := I2.kept (t' := tk1) fun b o e => Heap.get?_push_of_some _ e
    have fo : FpOk X pins (upd H s.heap.objs.size (.ext (isDict X.w s.heap.objs.size []))) h1.objs.size := I2.fpOk (Nat.le_refl _) (I2.hok.fresh (Nat.le_refl _))
    have nl : s.heap.objs.size ≠ l := (Nat.ne_of_lt (Heap.lt_size hl)).symm
    have nfd : h s.heap.objs.size = none := rh.free nf
    have key := pairs_loop (A := X.A.in1) (R := wants (fun r s₂ => r = .none ∧ EP X pins σ Q (.ref s.heap.objs.size) s₂) X.xe) (S := s.heap.objs.size) (T := h1.objs.size) (l := l) (ps := ps) (by rw [Around.in1_units]; omega) hh hz hk ps.length 0 _ _ 0 0 _ (by omega) I3 fo ⟨_, Heap.get?_push_size _ rfl, rfl, rfl⟩ rh1 put_same
      ((src _ nl).step kp) nl fun s' H' J k' r' => ⟨rfl, ⟨.ref s.heap.objs.size, H', J, rfl, f _ _ _ _ (q _ nfd) (kp.trans k') (by rw [put_put] at r'; exact r') rfl⟩⟩
    first
      | exact wpAny_pure ⟨plainId_quiet ud_plain _, key⟩
      | exact wpAny_bind (wpAny_pure (wpAny_pure ⟨plainId_quiet ud_plain _, key⟩))
  · exact q.elim
end
end DL
/-! D20: sorted(set(list of ints)). -/
namespace DL
open PySem PySem.Spec PyProof.Rows L2

abbrev setO0 (w : World) : Obj := { cls := .type "set", dict := none, data := .set #[] 0 (.fresh 0 0 (!w.params.followText "set-order")) }
section
variable {P : Program} {w : World} {A : Around} {E : Value → Shared → Prop} {s : Shared}
theorem call_set_listI {l : Addr} {items : Array Value} (ns : List Int) {Q : Value → Shared → Prop} (hh : A.handled = none) (hl : s.heap.IsList l items) (hit : IntsAre items.toList ns) (hb : ns.length + 1 < scanBound)
    (h : ∀ (h' : Heap) (tk c : Nat), SetR w h' s.heap.objs.size (fun j => decide (j ∈ ns)) c → c ≤ ns.length → (∀ b o, s.heap.get? b = some o → h'.get? b = some o) → Q (.ref s.heap.objs.size) { s with heap := h', toks := tk }) :
    wpAny (model P w) A (call (.type "set") [.ref l]) Q E s := by
  have isz : items.size = ns.length := by
    have q := IntsAre.length hit
    rwa [Array.length_toList] at q
  obtain ⟨c, tl, mro⟩ := PySem.F.called_set.mro
  have made := PySem.F.called_set.made
  have sub0 := PySem.F.called_set.sub
  refine wpAny_call (codeAny_of_tree ?_)
  show wpAny _ _ (callAny (.type "set") _) _ _ _
  refine wpAny_pure ⟨Code.quiet_builtin _ (by decide +kernel), codeAny_builtin PySem.F.entry_type_call ?_⟩
  rw [Around.under_plain (weight_type_call_type "set" [.ref l] []) rfl]
  have no := PySem.F.called_set.notType
  have can := PySem.F.called_set.canCreate
  have ct := PySem.F.typeCall_set_1 (.ref l)
  repeat (any_goals (first | assumption | wp_step))
  refine codeAny_mono (code_set_led1 (.ref l) (E := E) (Q₁ := fun obj s₁ => obj = .ref s.heap.objs.size ∧ s₁ = { s with heap := s.heap.push (setO0 w) }) ⟨rfl, rfl⟩) fun r s₁ hr => ?_
  cases r with
  | error e => exact hr
  | ok fl =>
  cases fl with
  | next => exact hr.elim
  | brk => exact hr.elim
  | cont => exact hr.elim
  | ret obj =>
  obtain ⟨rfl, rfl⟩ := hr
  have hS : (s.heap.push (setO0 w)).get? s.heap.objs.size = some (setO0 w) := Heap.get?_push_size _ rfl
  obtain ⟨ol, hol, hcl, nl, hdl⟩ := id hl
  have hol2 : (s.heap.push (setO0 w)).get? l = some ol := Heap.get?_push_of_some _ hol
  have hl2 : (s.heap.push (setO0 w)).IsList l items := ⟨ol, hol2, hcl, nl, hdl⟩
  have ty : Shared.TypeIs { s with heap := s.heap.push (setO0 w) } (.ref s.heap.objs.size) "set" := ⟨_, hS, rfl⟩
  have li := PySem.F.called_set.init.lookup
  have bi := PySem.F.called_set.init.bind (.ref s.heap.objs.size)
  repeat (any_goals (first | assumption | wp_step))
  refine codeAny_mono (codeAny_call_builtin (R := wants (fun r s₂ => r = .none ∧ Q (.ref s.heap.objs.size) s₂) E) PySem.F.called_set.init.plain PySem.F.entry_set_init (check_set_init_1 ty ?_)) fun r₂ s₂ hr₂ => ?_
  rotate_left
  · cases r₂ with
    | error e => exact hr₂
    | ok fl₂ =>
    cases fl₂ with
    | next => exact hr₂.elim
    | brk => exact hr₂.elim
    | cont => exact hr₂.elim
    | ret r =>
    obtain ⟨rfl, hq⟩ := hr₂
    repeat (any_goals (first | assumption | wp_step))
  obtain ⟨ocls, odict, odata, oslots⟩ := ol
  simp only at hcl hdl
  subst hcl; subst hdl
  have sub1 := PySem.F.sub_list_set
  have sub2 := PySem.F.sub_list_frozenset
  have ne : (Value.type "list" == Value.type "dict") = false := by decide
  unfold Builtin.«set.__init__» noKeywords Builtin.Frozenset.updateFrom
  generalize hPI : pyIter = PI
  wp_walk
  subst hPI
  refine wpAny_pyIter_list hl2 ?_
  refine wpAny_bind (wpAny_runValue ?_)
  have ls : l < s.heap.objs.size := Heap.lt_size hol
  have hh3 : A.in1.in1.in1.handled = none := by simp [hh]
  have sz : (s.heap.push (setO0 w)).objs.size = s.heap.objs.size + 1 := Heap.size_push ..
  have nI : l ≠ (s.heap.push (setO0 w)).objs.size := by rw [sz]; exact Nat.ne_of_lt (Nat.lt_succ_of_lt ls)
  have nf : s.heap.objs.size ∉ [(s.heap.push (setO0 w)).objs.size, l] := by
    rw [sz]
    intro z
    rcases List.mem_cons.mp z with z | z
    · exact Nat.ne_of_lt (Nat.lt_succ_self _) z
    · exact Nat.ne_of_gt ls (List.mem_singleton.mp z)
  have val : ∀ (i : Nat) (v : Value), items[i]? = some v → ∃ k t, ns[i]? = some k ∧ v = .int k t := fun i v hv => by
    have hi : i < ns.length := by rw [← isz]; exact (Array.getElem?_eq_some_iff.mp hv).1
    obtain ⟨t, e⟩ := PyProof.Rows.IntsAre.int_at hit i v (by rw [Array.getElem?_toList]; exact hv)
    refine ⟨ns[i], t, List.getElem?_eq_getElem hi, ?_⟩
    rw [e, List.getD_eq_getElem?_getD, List.getElem?_eq_getElem hi] <;> rfl
  refine set_update_ints ((Walks.list hh3 _ l nI items).toS) s.heap.objs.size nf ns isz hb val (items.size - 0) 0 _ (by omega) (Nat.zero_le _) ⟨⟨_, Heap.get?_push_size _ rfl, rfl, rfl⟩, hl2.push _⟩ ⟨0, Nat.le_refl 0, setR_new_at (Heap.get?_push_of_some _ hS)⟩ fun s' c' hm hc' hS' => ?_
  obtain ⟨h', g2, d', tk', os'⟩ := s'
  obtain rfl : g2 = s.gens := hm.gens
  obtain rfl : d' = s.drawn := hm.drawn
  obtain rfl : os' = s.os := hm.os
  show wpAny _ _ _ _ _ _
  refine wpAny_pure ?_
  show wpAny _ _ (ret Value.none) _ _ _
  rw [isz] at hc'
  refine wpAny_pure ⟨rfl, h h' tk' c' hS' hc' fun b o e => ?_⟩
  have b0 : b < s.heap.objs.size := Heap.lt_size e
  refine hm.heap b o (fun z => ?_) (Heap.get?_push_of_some _ (Heap.get?_push_of_some _ e))
  rcases List.mem_cons.mp z with z | z
  · exact Nat.ne_of_lt b0 z
  · have q := List.mem_singleton.mp z
    rw [sz] at q
    exact Nat.ne_of_lt (Nat.lt_succ_of_lt b0) q
end

section
variable {X : Cx}
/-- set(list of ints) -/
theorem cr_setL (hc : X.calm = true) : CallR X (.type "set") fun vs H Q => ∃ (l : Addr) (ns : List Int), vs = [V.ref l] ∧ SqL X.K H l (ns.map V.int) ∧ ns.length ≤ 1000 ∧ ∀ p c, H p = none → c ≤ ns.length → Q (.ref p) (upd H p (SetO X.w p (fun j => decide (j ∈ ns)) c)) := by
  intro pins s σ H vs us Q I r q
  obtain ⟨l, ns, rfl, hl, hz, q⟩ := q
  rw [Vals.ref1 r]
  obtain ⟨its, rv, pl, _⟩ := I.list hl
  have nf : H s.heap.objs.size = none := I.hok.fresh (Nat.le_refl _)
  refine call_set_listI ns (I.ok.hd hc) pl.isList (by simpa using rv.ints) (by unfold scanBound; omega) fun h' tk c R hcn keep => ?_
  refine ⟨.ref s.heap.objs.size, _, I.laid (a := s.heap.objs.size) (o := SetO X.w s.heap.objs.size (fun j => decide (j ∈ ns)) c) (t' := tk) keep (Nat.le_refl _) ⟨R, ?_, fun h1 h2 p k => SetR.at p k⟩, rfl, q _ c nf hcn⟩
  obtain ⟨o, _, _, _, ho, _⟩ := R
  exact ⟨o, ho⟩
/-- sorted(set(xs)) -/
def dSortSet : DTE → DTE := fun te σ h P => te σ h fun d h1 => seqAt d h1 fun xs => ∃ ns : List Int, allI xs = some ns ∧ ns.length < 64 ∧ ∀ ms : List Int, ms.Pairwise (· < ·) → (∀ k, k ∈ ms ↔ k ∈ ns) → fresh h1 (.lst (ms.map .int)) fun p h2 => P (.ref p) h2
theorem de_sortSet {e : Expr} {te : DTE} {p1 p2 q1 q2 : Pos} (hc : X.calm = true) (g1 : Gl X "sorted") (m1 : X.mg "sorted" = none) (g2 : Gl X "set") (m2 : X.mg "set" = none) (he : DE X e te)
    (s1 : starEach [e] X.env = [(false, eval e X.env)] := by rfl) (s2 : starEach [.Call (.Name "set" p1) [e] [] p2] X.env = [(false, eval (.Call (.Name "set" p1) [e] [] p2) X.env)] := by rfl) :
    DE X (.Call (.Name "sorted" q1) [.Call (.Name "set" p1) [e] [] p2] [] q2) (dSortSet te) := by
  have inner := pe_callTy (X := X) (p := p1) (pos := p2) (cr_setL hc) g2 m2 (by decide +kernel) (pa_cons he.pe pa_nil s1) (he := s1)
  have outer := pe_callB (X := X) (p := q1) (pos := q2) (cr_sortedSet hc) g1 m1 (by decide +kernel) (pa_cons inner pa_nil s2) (he := s2)
  refine ⟨peImp outer ?_⟩
  rintro σ H Q ⟨dσ, h, P, rs, rh, q, f⟩
  refine ⟨dσ, h, _, rs, rh, q, fun d h1 v H1 q1 k1 rh1 r1 => ?_⟩
  obtain ⟨a, vs, xs, rfl, g1, t1, ns, e2, l64, q2⟩ := seq_of rh1 r1 q1
  rw [allI_vs e2 t1] at g1
  refine ⟨_, ns, rfl, g1, by omega, fun p c np hcn => ?_⟩
  refine ⟨p, _, c, rfl, upd_same, by omega, fun ms p2 up mem len np2 => ?_⟩
  have kA : Keeps H1 (upd H1 p (SetO X.w p (fun j => decide (j ∈ ns)) c)) := Keeps.new np
  have rhA := rh1.hide (rh1.free np) kA
  have n := RH.newL rhA np2 (rds_ints ms)
  exact f _ _ _ _ (q2 ms up (fun k => by rw [mem, decide_eq_true_iff]) p2 (rhA.free np2)) (k1.trans (kA.trans n.1)) n.2 rfl
end
end DL
/-! D21: equality of nested tuples, the place of one in a list. -/
namespace DL
open PySem PySem.Spec PyProof.Rows L2

mutual
/-- the tree of a value without flags, lists and other things -/
def toPD : D → Option PyData
  | .non => some .none
  | .int i => some (.int i)
  | .str x => some (.str x)
  | .tup ds => (toPDs ds).map .tuple
  | _ => none
def toPDs : List D → Option (List PyData)
  | [] => some []
  | d :: ds => (toPD d).bind fun p => (toPDs ds).map fun ps => p :: ps
end
theorem toPDs_cons {d : D} {ds : List D} {ps : List PyData} (h : toPDs (d :: ds) = some ps) : ∃ p qs, toPD d = some p ∧ toPDs ds = some qs ∧ ps = p :: qs := by
  rw [toPDs] at h
  obtain ⟨p, e1, h⟩ := Option.bind_eq_some_iff.mp h
  obtain ⟨qs, e2, h⟩ := Option.map_eq_some_iff.mp h
  exact ⟨p, qs, e1, e2, h.symm⟩
section
variable {K : PySem.W.Frag} {w : World} {H : Hp}
mutual
theorem dp_of : ∀ (d : D) (v : V) (p : PyData), toPD d = some p → RD K w H d v → Dp K H v p
  | .non, _, _, e, r => by cases e; cases r; exact .non
  | .int i, _, _, e, r => by cases e; cases r; exact .int i
  | .str x, _, _, e, r => by cases e; cases r; exact .str x
  | .tup ds, _, _, e, ⟨a, vs, ev, sq, rs⟩ => by
    rw [toPD] at e
    obtain ⟨ps, e1, rfl⟩ := Option.map_eq_some_iff.mp e
    subst ev
    exact .tup sq (dp_all ds vs ps e1 rs)
  | .bl _, _, _, e, _ => by simp [toPD] at e
  | .ref _, _, _, e, _ => by simp [toPD] at e
  | .rol _, _, _, e, _ => by simp [toPD] at e
  | .ty _, _, _, e, _ => by simp [toPD] at e
  | .rng _ _, _, _, e, _ => by simp [toPD] at e
  | .rod _ _, _, _, e, _ => by simp [toPD] at e
  | .obj _ _ _, _, _, e, _ => by simp [toPD] at e
theorem dp_all : ∀ (ds : List D) (vs : List V) (ps : List PyData), toPDs ds = some ps → RDs K w H ds vs → DpAll K H vs ps
  | [], _, _, e, r => by
    rw [RDs.nil_ r]
    rw [toPDs] at e
    cases e
    exact .nil
  | d :: ds, _, ps, e, ⟨v, r, ev, h1, h2⟩ => by
    obtain ⟨p, qs, e1, e2, rfl⟩ := toPDs_cons e
    subst ev
    exact .cons (dp_of d v p e1 h1) (dp_all ds r qs e2 h2)
end
end
mutual
theorem eqv_iff : ∀ (d e : D) (p q : PyData), toPD d = some p → toPD e = some q → (PyData.eqv p q = true ↔ d = e)
  | .non, e, p, q, h1, h2 => by
    cases h1
    cases e <;> simp [toPD] at h2
    · subst h2; simp [PyData.eqv]
    · subst h2; simp [PyData.eqv]
    · subst h2; simp [PyData.eqv]
    · obtain ⟨_, _, rfl⟩ := h2; simp [PyData.eqv]
  | .int i, e, p, q, h1, h2 => by
    cases h1
    cases e <;> simp [toPD] at h2
    · subst h2; simp [PyData.eqv]
    · subst h2; simp [PyData.eqv]
    · subst h2; simp [PyData.eqv]
    · obtain ⟨_, _, rfl⟩ := h2; simp [PyData.eqv]
  | .str i, e, p, q, h1, h2 => by
    cases h1
    cases e <;> simp [toPD] at h2
    · subst h2; simp [PyData.eqv]
    · subst h2; simp [PyData.eqv]
    · subst h2; simp [PyData.eqv]
    · obtain ⟨_, _, rfl⟩ := h2; simp [PyData.eqv]
  | .tup ds, e, p, q, h1, h2 => by
    rw [toPD] at h1
    obtain ⟨ps, e1, rfl⟩ := Option.map_eq_some_iff.mp h1
    cases e with
    | non => cases h2; simp [PyData.eqv]
    | int _ => cases h2; simp [PyData.eqv]
    | str _ => cases h2; simp [PyData.eqv]
    | tup es =>
      rw [toPD] at h2
      obtain ⟨qs, e2, rfl⟩ := Option.map_eq_some_iff.mp h2
      rw [PyData.eqv, eqvs_iff ds es ps qs e1 e2]
      constructor
      · intro h; rw [h]
      · intro h; injection h
    | bl _ => simp [toPD] at h2
    | ref _ => simp [toPD] at h2
    | rol _ => simp [toPD] at h2
    | ty _ => simp [toPD] at h2
    | rng _ _ => simp [toPD] at h2
    | rod _ _ => simp [toPD] at h2
    | obj _ _ _ => simp [toPD] at h2
  | .bl _, _, _, _, h, _ => by simp [toPD] at h
  | .ref _, _, _, _, h, _ => by simp [toPD] at h
  | .rol _, _, _, _, h, _ => by simp [toPD] at h
  | .ty _, _, _, _, h, _ => by simp [toPD] at h
  | .rng _ _, _, _, _, h, _ => by simp [toPD] at h
  | .rod _ _, _, _, _, h, _ => by simp [toPD] at h
  | .obj _ _ _, _, _, _, h, _ => by simp [toPD] at h
theorem eqvs_iff : ∀ (ds es : List D) (ps qs : List PyData), toPDs ds = some ps → toPDs es = some qs → (PyData.eqvAll ps qs = true ↔ ds = es)
  | [], [], ps, qs, h1, h2 => by rw [toPDs] at h1 h2; cases h1; cases h2; simp [PyData.eqvAll]
  | [], e :: es, ps, qs, h1, h2 => by
    rw [toPDs] at h1; cases h1
    obtain ⟨q, r, _, _, rfl⟩ := toPDs_cons h2
    simp [PyData.eqvAll]
  | d :: ds, [], ps, qs, h1, h2 => by
    rw [toPDs] at h2; cases h2
    obtain ⟨q, r, _, _, rfl⟩ := toPDs_cons h1
    simp [PyData.eqvAll]
  | d :: ds, e :: es, ps, qs, h1, h2 => by
    obtain ⟨p, pr, a1, a2, rfl⟩ := toPDs_cons h1
    obtain ⟨q, qr, b1, b2, rfl⟩ := toPDs_cons h2
    rw [PyData.eqvAll, Bool.and_eq_true, eqv_iff d e p q a1 b1, eqvs_iff ds es pr qr a2 b2, List.cons.injEq]
end
theorem eqv_dec {d e : D} {p q : PyData} (h1 : toPD d = some p) (h2 : toPD e = some q) : PyData.eqv p q = decide (d = e) := by
  rw [Bool.eq_iff_iff, decide_eq_true_iff]
  exact eqv_iff d e p q h1 h2
/-- a tree that may be compared -/
def Cmp (d : D) : Prop := ∃ p, toPD d = some p ∧ SeqAt.shaped p = true
section
variable {X : Cx}
noncomputable def dEqT : DR2 := fun x y h P => (Cmp x ∧ Cmp y) ∧ P (.bl (decide (x = y))) h
noncomputable def dNeT : DR2 := fun x y h P => (Cmp x ∧ Cmp y) ∧ P (.bl (!decide (x = y))) h
theorem op_dEqT (hu : X.A.units + 64 < cLine) : DOp X (compareOp .Eq) dEqT := by
  intro pins s σ H x y v u Q I rx ry q
  obtain ⟨dx, dy, h, P, r1, r2, rh, ⟨⟨⟨p, e1, s1⟩, ⟨p2, e2, s2⟩⟩, q⟩, f⟩ := q
  exact op_eqD hu pins s σ H x y v u Q I rx ry ⟨p, p2, dp_of _ _ _ e1 r1, dp_of _ _ _ e2 r2, s1, s2, by rw [eqv_dec e1 e2]; exact f _ _ _ _ q (Keeps.refl _) rh rfl⟩
theorem op_dNeT (hu : X.A.units + 64 < cLine) : DOp X (compareOp .NotEq) dNeT := by
  intro pins s σ H x y v u Q I rx ry q
  obtain ⟨dx, dy, h, P, r1, r2, rh, ⟨⟨⟨p, e1, s1⟩, ⟨p2, e2, s2⟩⟩, q⟩, f⟩ := q
  exact op_neD hu pins s σ H x y v u Q I rx ry ⟨p, p2, dp_of _ _ _ e1 r1, dp_of _ _ _ e2 r2, s1, s2, by rw [eqv_dec e1 e2]; exact f _ _ _ _ q (Keeps.refl _) rh rfl⟩
end

section
variable {X : Cx}
theorem toPDs_get : ∀ {ds : List D} {ps : List PyData} {i : Nat} {d : D}, toPDs ds = some ps → ds[i]? = some d → ∃ p, ps[i]? = some p ∧ toPD d = some p
  | [], _, i, _, _, e => by simp at e
  | d :: ds, ps, 0, x, h, e => by
    obtain ⟨p, qs, e1, e2, rfl⟩ := toPDs_cons h
    simp at e; subst e
    exact ⟨p, rfl, e1⟩
  | d :: ds, ps, i + 1, x, h, e => by
    obtain ⟨p, qs, e1, e2, rfl⟩ := toPDs_cons h
    obtain ⟨p', h1, h2⟩ := toPDs_get (i := i) e2 (by simpa using e)
    exact ⟨p', by simpa using h1, h2⟩
theorem toPDs_back : ∀ {ds : List D} {ps : List PyData} {i : Nat} {p : PyData}, toPDs ds = some ps → ps[i]? = some p → ∃ d, ds[i]? = some d ∧ toPD d = some p
  | [], _, i, _, h, e => by rw [toPDs] at h; cases h; simp at e
  | d :: ds, ps, 0, x, h, e => by
    obtain ⟨p, qs, e1, e2, rfl⟩ := toPDs_cons h
    simp at e; subst e
    exact ⟨d, rfl, e1⟩
  | d :: ds, ps, i + 1, x, h, e => by
    obtain ⟨p, qs, e1, e2, rfl⟩ := toPDs_cons h
    obtain ⟨p', h1, h2⟩ := toPDs_back (i := i) e2 (by simpa using e)
    exact ⟨p', by simpa using h1, h2⟩
/-- the first place of y in a list -/
def dIndex : DRM
  | d, [y], h, P => seqAt d h fun xs => ∃ j : Nat, (Cmp y ∧ Cmp (.tup xs)) ∧ xs[j]? = some y ∧ (∀ m < j, xs[m]? ≠ some y) ∧ P (.int j) h
  | _, _, _, _ => False
theorem mt_dIndex (hu : X.A.units + 65 < cLine) : MtR X "list.index" (LM X.K X.w dIndex) := by
  intro pins s σ H x xs v us Q I rx rs q
  obtain ⟨d, ds, h, P, r1, r2, rh, q, f⟩ := q
  unfold dIndex at q
  split at q
  · obtain ⟨u, rfl, ru⟩ := r2.one
    obtain ⟨a, vs, ys, rfl, g1, t1, j, ⟨⟨p, ep, sp⟩, ⟨p2, ep2, sp2⟩⟩, ej, no, q⟩ := seq_of rh r1 q
    rw [toPD] at ep2
    obtain ⟨ps, eps, rfl⟩ := Option.map_eq_some_iff.mp ep2
    obtain ⟨z, ez1, ez2⟩ := toPDs_get eps ej
    refine mt_indexD hu pins s σ H _ _ v us Q I rx rs ⟨_, _, p, ps, j, z, rfl, rfl, .lst g1 (dp_all _ _ _ eps t1), dp_of _ _ _ ep ru, ?_, sp, ez1, ?_, fun m z' hm hz => ?_, f _ _ _ _ q (Keeps.refl _) rh rfl⟩
    · simpa [SeqAt.shaped, PyData.canLay0, PyData.depth] using sp2
    · rw [eqv_dec ez2 ep]; exact decide_eq_true rfl
    · obtain ⟨d', h1, h2⟩ := toPDs_back eps hz
      rw [eqv_dec h2 ep]
      refine decide_eq_false fun e => no m hm ?_
      rw [h1, e]
  · exact q.elim
end
end DL
/-! D22: a zip whose last pair is still held, over iterators of any kind. -/
namespace DL
open PySem PySem.Spec PyProof.Rows L2

section
variable {prog : Program} {w : World} {A : Around} {E : Value → Shared → Prop} {s : Shared} {z TI TO T i1 i2 : Addr} {fp1 fp2 : List Addr} {n1 n2 i : Nat} {P1 P2 : Nat → Value → Prop} {St1 St2 : Nat → Heap → Prop} {f : Bool} {oT : Obj}
/-- where the cells lie, without the pair's own -/
structure Apart (z TI i1 i2 : Addr) (fp1 fp2 : List Addr) : Prop where
  zf1 : z ∉ fp1
  zf2 : z ∉ fp2
  z1 : z ≠ i1
  z2 : z ≠ i2
  s12 : i1 ∉ fp2
  s21 : i2 ∉ fp1
theorem held_item {Q : Value → Shared → Prop} (S : Apart z TI i1 i2 fp1 fp2) (D1 : Draws prog w A i1 fp1 n1 P1 St1) (D2 : Draws prog w A i2 fp2 n2 P2 St2) (hz : IsZipHeld s.heap z TI TO T f) (hT : s.heap.get? T = some oT) (hTI : IsTupOf2 s.heap TI (.ref i1) (.ref i2))
    (st1 : St1 i s.heap) (st2 : St2 i s.heap) (l1 : i < n1) (l2 : i < n2)
    (hQ : ∀ x1 x2 h' tk, P1 i x1 → P2 i x2 → IsZipHeld h' z TI TO T true → St1 (i + 1) h' → St2 (i + 1) h' → IsTupOf2 h' s.heap.objs.size x1 x2 → h'.objs.size = s.heap.objs.size + 1 →
      (∀ c o, c ≠ z → c ≠ i1 → c ≠ i2 → s.heap.get? c = some o → h'.get? c = some o) → Q (.ref s.heap.objs.size) { s with heap := h', toks := tk }) :
    wpAny (model prog w) A (Builtin.«zip.__next__» ⟨[.ref z], []⟩) (fun fin s' => ∃ v, fin = .done (.ret v) ∧ Q v s') E s := by
  show wpAny _ _ (field (.ref z) 2 >>= _) _ _ _
  refine wpAny_bind (wpAny_field hz rfl (x := .bool false) rfl ?_)
  show wpAny _ _ (field (.ref z) 3 >>= _) _ _ _
  refine wpAny_bind (wpAny_field hz rfl (x := .ref TI) rfl ?_)
  refine wpAny_bind (wpAny_seqItems hTI rfl ?_)
  show wpAny _ _ (Builtin.SmallTypes.ownedTupleIsFree (.ref z) >>= _) _ _ _
  refine wpAny_bind (wpAny_tupleHeld_zip hz hT fun g1 hz1 sb1 => ?_)
  simp only [Bool.false_eq_true, if_false]
  refine wpAny_bind ?_
  rw [← Array.forIn_toList]
  simp only [List.forIn_cons, List.forIn_nil]
  refine wpAny_bind (wpAny_bind (wpAny_holding ?_))
  show wpAny _ _ (Builtin.SmallTypes.nextOf (.ref i1) >>= _) _ _ _
  refine wpAny_bind (D1.item i { s with heap := g1 } _ _ l1 (D1.over st1 sb1 S.zf1) fun x1 g2 tk2 p1 st1' sb2 => wpAny_pure ?_)
  refine wpAny_pure ?_
  refine wpAny_bind (wpAny_bind (wpAny_holding ?_))
  show wpAny _ _ (Builtin.SmallTypes.nextOf (.ref i2) >>= _) _ _ _
  refine wpAny_bind (D2.item i { s with heap := g2, toks := tk2 } _ _ l2 (D2.over (D2.over st2 sb1 S.zf2) sb2 S.s12) fun x2 g3 tk3 p2 st2' sb3 => wpAny_pure ?_)
  refine wpAny_pure (wpAny_pure ?_)
  show wpAny _ _ (newTuple [x1, x2] >>= _) _ _ _
  refine wpAny_bind (wpAny_newTuple ?_)
  have sz : g3.objs.size = s.heap.objs.size := by rw [sb3.1, sb2.1, sb1.1]
  have hz3 : IsZipHeld g3 z TI TO T true := sb3.extBut _ _ S.z2 (sb2.extBut _ _ S.z1 hz1)
  have keep : ∀ c o, c ≠ z → c ≠ i1 → c ≠ i2 → s.heap.get? c = some o → g3.get? c = some o := fun c o c1 c2 c3 e => sb3.extBut _ _ c3 (sb2.extBut _ _ c2 (sb1.extBut _ _ c1 e))
  have j1 : St1 (i + 1) g3 := D1.over st1' sb3 S.s21
  refine wpAny_pure ⟨_, rfl, ?_⟩
  show Q (.ref g3.objs.size) _
  have pr : IsTupOf2 (g3.push { cls := .type "tuple", data := .seq #[x1, x2] }) g3.objs.size x1 x2 := Heap.get?_push_size _ rfl
  have sz4 : (g3.push { cls := .type "tuple", data := .seq #[x1, x2] }).objs.size = g3.objs.size + 1 := Heap.size_push ..
  rw [sz] at pr sz4 ⊢
  exact hQ x1 x2 _ tk3 p1 p2 (Heap.get?_push_of_some _ hz3) (D1.frame _ _ _ j1 fun b _ o e => Heap.get?_push_of_some _ e) (D2.frame _ _ _ st2' fun b _ o e => Heap.get?_push_of_some _ e) pr sz4 fun c o c1 c2 c3 e => Heap.get?_push_of_some _ (keep c o c1 c2 c3 e)
theorem held_end {Q : PySem.Fin → Shared → Prop} (S : Apart z TI i1 i2 fp1 fp2) (D1 : Draws prog w A i1 fp1 n1 P1 St1) (D2 : Draws prog w A i2 fp2 n2 P2 St2) (hz : IsZipHeld s.heap z TI TO T f) (hT : s.heap.get? T = some oT) (hTI : IsTupOf2 s.heap TI (.ref i1) (.ref i2))
    (st1 : St1 i s.heap) (st2 : St2 i s.heap) (l1 : i ≤ n1) (l2 : i ≤ n2) (stop : i = n1 ∨ i = n2)
    (hE : ∀ h' tk e, (∀ c o, c ≠ z → c ≠ i1 → c ≠ i2 → s.heap.get? c = some o → h'.get? c = some o) → (∃ o, h'.get? e = some o ∧ o.cls = .type "StopIteration") → E (.ref e) { s with heap := h', toks := tk }) :
    wpAny (model prog w) A (Builtin.«zip.__next__» ⟨[.ref z], []⟩) Q E s := by
  show wpAny _ _ (field (.ref z) 2 >>= _) _ _ _
  refine wpAny_bind (wpAny_field hz rfl (x := .bool false) rfl ?_)
  show wpAny _ _ (field (.ref z) 3 >>= _) _ _ _
  refine wpAny_bind (wpAny_field hz rfl (x := .ref TI) rfl ?_)
  refine wpAny_bind (wpAny_seqItems hTI rfl ?_)
  show wpAny _ _ (Builtin.SmallTypes.ownedTupleIsFree (.ref z) >>= _) _ _ _
  refine wpAny_bind (wpAny_tupleHeld_zip hz hT fun g1 hz1 sb1 => ?_)
  simp only [Bool.false_eq_true, if_false]
  refine wpAny_bind ?_
  rw [← Array.forIn_toList]
  simp only [List.forIn_cons, List.forIn_nil]
  refine wpAny_bind (wpAny_bind (wpAny_holding ?_))
  show wpAny _ _ (Builtin.SmallTypes.nextOf (.ref i1) >>= _) _ _ _
  by_cases h1 : i = n1
  · subst h1
    exact wpAny_bind (D1.done { s with heap := g1 } _ _ (D1.over st1 sb1 S.zf1) fun h' e ex he => hE h' s.toks e (fun c o c1 c2 _ q => ex _ _ c2 (sb1.extBut _ _ c1 q)) he)
  · have h2 : i = n2 := stop.resolve_left h1
    subst h2
    refine wpAny_bind (D1.item i { s with heap := g1 } _ _ (by omega) (D1.over st1 sb1 S.zf1) fun x1 g2 tk2 p1 st1' sb2 => wpAny_pure ?_)
    refine wpAny_pure ?_
    refine wpAny_bind (wpAny_bind (wpAny_holding ?_))
    show wpAny _ _ (Builtin.SmallTypes.nextOf (.ref i2) >>= _) _ _ _
    exact wpAny_bind (D2.done { s with heap := g2, toks := tk2 } _ _ (D2.over (D2.over st2 sb1 S.zf2) sb2 S.s12) fun h' e ex he => hE h' tk2 e (fun c o c1 c2 c3 q => ex _ _ c3 (sb2.extBut _ _ c2 (sb1.extBut _ _ c1 q))) he)
theorem next_held_item {Q : Option Value → Shared → Prop} (S : Apart z TI i1 i2 fp1 fp2) (D1 : Draws prog w A.in1 i1 fp1 n1 P1 St1) (D2 : Draws prog w A.in1 i2 fp2 n2 P2 St2) (hz : IsZipHeld s.heap z TI TO T f) (hT : s.heap.get? T = some oT) (hTI : IsTupOf2 s.heap TI (.ref i1) (.ref i2))
    (st1 : St1 i s.heap) (st2 : St2 i s.heap) (l1 : i < n1) (l2 : i < n2)
    (hQ : ∀ x1 x2 h' tk, P1 i x1 → P2 i x2 → IsZipHeld h' z TI TO T true → St1 (i + 1) h' → St2 (i + 1) h' → IsTupOf2 h' s.heap.objs.size x1 x2 → h'.objs.size = s.heap.objs.size + 1 →
      (∀ c o, c ≠ z → c ≠ i1 → c ≠ i2 → s.heap.get? c = some o → h'.get? c = some o) → Q (some (.ref s.heap.objs.size)) { s with heap := h', toks := tk }) : wpAny (model prog w) A (pyNext (.ref z)) Q E s := by
  have ty : s.TypeIs (.ref z) "zip" := ⟨_, hz, rfl⟩
  unfold pyNext
  exact wpAny_bind (wpAny_attempt (wpAny_callSpecial?_slot (name := Str.ofString "__next__") ty PySem.F.slot_zip_next (wpAny_call_entry PySem.F.slot_zip_next ty PySem.F.entry_zip_next
    (held_item S D1 D2 hz hT hTI st1 st2 l1 l2 fun x1 x2 h' tk a b c d e g k l => wpAny_pure (hQ x1 x2 h' tk a b c d e g k l)) (PySem.F.args_zip_next_1 _))))
theorem next_held_end {Q : Option Value → Shared → Prop} (S : Apart z TI i1 i2 fp1 fp2) (D1 : Draws prog w A.in1 i1 fp1 n1 P1 St1) (D2 : Draws prog w A.in1 i2 fp2 n2 P2 St2) (hz : IsZipHeld s.heap z TI TO T f) (hT : s.heap.get? T = some oT) (hTI : IsTupOf2 s.heap TI (.ref i1) (.ref i2))
    (st1 : St1 i s.heap) (st2 : St2 i s.heap) (l1 : i ≤ n1) (l2 : i ≤ n2) (stop : i = n1 ∨ i = n2)
    (hQ : ∀ h' tk, (∀ c o, c ≠ z → c ≠ i1 → c ≠ i2 → s.heap.get? c = some o → h'.get? c = some o) → Q none { s with heap := h', toks := tk }) : wpAny (model prog w) A (pyNext (.ref z)) Q E s := by
  have ty : s.TypeIs (.ref z) "zip" := ⟨_, hz, rfl⟩
  unfold pyNext
  refine wpAny_bind (wpAny_attempt (wpAny_callSpecial?_slot (name := Str.ofString "__next__") ty PySem.F.slot_zip_next (wpAny_call_entry PySem.F.slot_zip_next ty PySem.F.entry_zip_next
    (held_end S D1 D2 hz hT hTI st1 st2 l1 l2 stop fun h' tk e k he => ?_) (PySem.F.args_zip_next_1 _))))
  obtain ⟨o, ho, hc⟩ := he
  refine wpAny_bind (wpAny_isInstance (T := "StopIteration") (b := true) ⟨o, ho, hc⟩ isSubtype_stop ?_)
  exact wpAny_pure (hQ _ _ k)
end
end DL
/-! D23: list(zip(s, t)), s and t tuples. -/
namespace DL
open PySem PySem.Spec PyProof.Rows L2

section
variable {X : Cx} {pins : List (Addr × Obj)} {σ : L2.St} {H : Hp} {s : Shared} {h : DH}
/-- an item put behind a list of data, at the table's own level -/
theorem push_ok {A : Around} {E : Value → Shared → Prop} {S : Addr} {ds : List D} {d : D} {y : V} {v : Value} {Q : Unit → Shared → Prop} (I : L2.Inv X pins σ H s) (rh : RH X.K X.w H h) (e : h S = some (.lst ds)) (hz : ds.length < sizeLine) (rv : RelV y v) (rd : RD X.K X.w H d y)
    (hQ : ∀ h' H', L2.Inv X pins σ H' { s with heap := h' } → Keeps H H' → RH X.K X.w H' (put h S (.lst (ds ++ [d]))) → Heap.SameBut S s.heap h' → (∀ b u, H' b = some u → H b = none → False) → Q () { s with heap := h' }) : wpAny (model X.prog X.w) A (updateSeq S (·.push v)) Q E s := by
  obtain ⟨vs, g, t⟩ := rh.lst e
  obtain ⟨hz', its, n, ri, ho⟩ := I.hok S _ g
  have hl := ri.length
  have len : vs.length < sizeLine := by rw [t.length]; exact hz
  refine wpAny_updateSeq ho rfl ?_ (by rw [List.size_toArray]; omega) (by rw [Array.size_push, List.size_toArray]; omega)
  have ho2 := Heap.get?_update_self (Obj.mapSeq (·.push v)) ho rfl
  have sb : Heap.SameBut S s.heap (s.heap.update S (Obj.mapSeq (·.push v))) := Heap.SameBut.update ..
  have n2 := RH.setL rh g (t.append (RDs.cons rd (show RDs X.K X.w H [] [] from rfl)))
  refine hQ _ _ (I.write (x := S) (e := S) (t' := s.toks) (o := .lst (vs ++ [y])) (by rw [g]; exact True.intro) (.inl rfl) (fun b u hb q => (sb.2 b hb).trans q) ⟨_, ho2⟩ ⟨by rw [List.length_append]; exact len, its ++ [v], n + 1, ri.append (.cons rv .nil), ?_⟩) n2.1 n2.2 sb fun b u hb hn => ?_
  · rw [ho2]
    simp [Obj.mapSeq]
  · by_cases z : b = S
    · rw [z, g] at hn; cases hn
    · rw [upd_ne z, hn] at hb; cases hb
end

section
variable {X : Cx} {pins : List (Addr × Obj)} {σ : L2.St}
theorem zip_loop {A : Around} {R : Result → Shared → Prop} {S z TI TO i1 i2 la lb : Addr} {xs ys : List D} (hh : A.handled = none) (hz : (pairs xs ys).length ≤ sizeLine) (ap : Apart z TI i1 i2 [i1, la] [i2, lb]) (t1 : TI ≠ z) (t2 : TI ≠ i1) (t3 : TI ≠ i2) (na : la ≠ i1) (nb : lb ≠ i2) (nS : S ∉ [z, TI, i1, i2]) :
    ∀ (n i : Nat) (H : Hp) (h : DH) (s : Shared) (T : Addr) (f : Bool) (oT : Obj), (pairs xs ys).length = i + n → L2.Inv X pins σ H s → (∀ b ∈ [z, TI, i1, i2], FpOk X pins H b) → IsZipHeld s.heap z TI TO T f → s.heap.get? T = some oT → T ≠ z → T ≠ i1 → T ≠ i2 → T ≠ S →
      IsTupOf2 s.heap TI (.ref i1) (.ref i2) → s.heap.IsTupleIter i1 la i → s.heap.IsTupleIter i2 lb i → RD X.K X.w H (.tup xs) (.ref la) → RD X.K X.w H (.tup ys) (.ref lb) → RH X.K X.w H h → h S = some (.lst ((pairs xs ys).take i)) →
      (∀ s' H', L2.Inv X pins σ H' s' → Keeps H H' → RH X.K X.w H' (put h S (.lst (pairs xs ys))) → R (.ok (.ret .none)) s') → codeAny (model X.prog X.w) A (.builtin "list.extend.loop" ⟨[.ref S, .ref z, .none], []⟩) R s
  | n, i, H, h, s, T, f, oT, hn, I, fo, zh, hT, nTz, nT1, nT2, nTS, hTI, hi1, hi2, rx, ry, rh, hS, fin => by
    obtain ⟨_, vs1, e1, sq1, rs1⟩ := id rx
    cases e1
    obtain ⟨_, vs2, e2, sq2, rs2⟩ := id ry
    cases e2
    obtain ⟨its1, rv1, tp1, _⟩ := I.tuple sq1
    obtain ⟨its2, rv2, tp2, _⟩ := I.tuple sq2
    have z1 : its1.toArray.size = xs.length := by rw [List.size_toArray, ← rv1.length, rs1.length]
    have z2 : its2.toArray.size = ys.length := by rw [List.size_toArray, ← rv2.length, rs2.length]
    have pl := pairs_length xs ys
    have D1 := Draws.tuple (prog := X.prog) (w := X.w) (A := A.in1.in1) (show A.in1.in1.handled = none from hh) i1 la na its1.toArray
    have D2 := Draws.tuple (prog := X.prog) (w := X.w) (A := A.in1.in1) (show A.in1.in1.handled = none from hh) i2 lb nb its2.toArray
    refine codeAny_builtin PySem.F.entry_extend_loop ?_
    rw [Around.under_plainId PySem.F.plain_extend_loop _]
    show wpAny _ A.in1 (pyNext (.ref z) >>= _) _ _ s
    match n, hn with
    | 0, hn =>
      refine wpAny_bind (next_held_end ap D1 D2 zh hT hTI ⟨hi1, tp1⟩ ⟨hi2, tp2⟩ (by omega) (by omega) (by omega) fun h' tk keep => ?_)
      show wpAny _ _ (ret Value.none) _ _ _
      refine wpAny_pure ?_
      have same : put h S (.lst (pairs xs ys)) = h := by
        funext c
        by_cases q : c = S
        · rw [q, put_same, hS, List.take_of_length_le (by omega)]
        · rw [put_ne q]
      refine fin _ H (I.turnedL (t' := tk) (ch := [z, TI, i1, i2]) (fun c o hb q => keep c o (fun e => hb (by rw [e]; simp)) (fun e => hb (by rw [e]; simp)) (fun e => hb (by rw [e]; simp)) q) fo) (Keeps.refl _) ?_
      rw [same]; exact rh
    | n + 1, hn =>
      refine wpAny_bind (next_held_item ap D1 D2 zh hT hTI ⟨hi1, tp1⟩ ⟨hi2, tp2⟩ (by omega) (by omega) fun x1 x2 h' tk p1 p2 zh' st1 st2 new sz keep => ?_)
      have l1 : i < xs.length := by omega
      have l2 : i < ys.length := by omega
      obtain ⟨v1, ev1, rd1⟩ := rs1.get (List.getElem?_eq_getElem l1)
      obtain ⟨v2, ev2, rd2⟩ := rs2.get (List.getElem?_eq_getElem l2)
      obtain ⟨u1, eu1, ru1⟩ := rv1.get ev1
      obtain ⟨u2, eu2, ru2⟩ := rv2.get ev2
      have q1 : u1 = x1 := by
        have q := p1
        rw [List.getElem?_toArray, eu1] at q
        exact Option.some.inj q
      have q2 : u2 = x2 := by
        have q := p2
        rw [List.getElem?_toArray, eu2] at q
        exact Option.some.inj q
      subst q1; subst q2
      have nf : H s.heap.objs.size = none := I.hok.fresh (Nat.le_refl _)
      have ob : ObjOk X.prog X.w (upd H s.heap.objs.size (.tup [v1, v2])) h' s.heap.objs.size (.tup [v1, v2]) := ⟨by show 2 ≤ sizeLine; decide, [u1, u2], .cons ru1 (.cons ru2 .nil), ⟨_, new, rfl, _, rfl⟩⟩
      have I1 : L2.Inv X pins σ (upd H s.heap.objs.size (.tup [v1, v2])) { s with heap := h', toks := tk } :=
        I.turnedNew (ch := [z, TI, i1, i2]) (fun c o hb q => keep c o (fun e => hb (by rw [e]; simp)) (fun e => hb (by rw [e]; simp)) (fun e => hb (by rw [e]; simp)) q) fo (Nat.le_refl _) ob
      have nT := RH.newT (vs := [v1, v2]) rh nf
      have rdp : RD X.K X.w (upd H s.heap.objs.size (.tup [v1, v2])) (.tup [xs[i], ys[i]]) (.ref s.heap.objs.size) := RD.newT nf ⟨v1, _, rfl, rd1, v2, _, rfl, rd2, rfl⟩
      have at_i : (pairs xs ys)[i]? = some (.tup [xs[i], ys[i]]) := by
        unfold pairs
        rw [List.getElem?_zipWith, List.getElem?_eq_getElem l1, List.getElem?_eq_getElem l2]
      show wpAny _ _ (updateSeq S (·.push (.ref s.heap.objs.size)) >>= _) _ _ _
      refine wpAny_bind (push_ok I1 nT.2 hS (by rw [List.length_take]; omega) (y := .ref s.heap.objs.size) rfl rdp fun h2 H2 J k2 rh2 sb nonew => ?_)
      have off : ∀ b ∈ [z, TI, i1, i2], b ≠ S := fun b hb e => nS (by rw [← e]; exact hb)
      have live : ∀ b ∈ [z, TI, i1, i2], b < s.heap.objs.size := fun b hb => by
        simp only [List.mem_cons, List.not_mem_nil, or_false] at hb
        rcases hb with e | e | e | e
        · rw [e]; exact Heap.lt_size zh
        · rw [e]; exact Heap.lt_size hTI
        · rw [e]; obtain ⟨_, q, _⟩ := hi1; exact Heap.lt_size q
        · rw [e]; obtain ⟨_, q, _⟩ := hi2; exact Heap.lt_size q
      refine wpAny_pure ⟨plainId_quiet PySem.F.plain_extend_loop _, zip_loop (TO := TO) hh hz ap t1 t2 t3 na nb nS n (i + 1) H2 _ { s with heap := h2, toks := tk } T true oT (by omega) J (fun b hb => ?_) ?_ ?_ nTz nT1 nT2 nTS ?_ ?_ ?_ (RD.keep (nT.1.trans k2) _ _ rx) (RD.keep (nT.1.trans k2) _ _ ry) rh2 ?_ fun s' H' J' k' r' => ?_⟩
      · refine ⟨?_, (fo b hb).2⟩
        cases q : H2 b with
        | none => rfl
        | some u => exact (nonew b u q (by rw [upd_ne (Nat.ne_of_lt (live b hb))]; exact (fo b hb).1)).elim
      · exact (sb.2 z (off z (by simp))).trans zh'
      · exact (sb.2 T nTS).trans (keep T oT nTz nT1 nT2 hT)
      · exact (sb.2 TI (off TI (by simp))).trans (keep TI _ t1 t2 t3 hTI)
      · exact st1.1.at fun o q => (sb.2 i1 (off i1 (by simp))).trans q
      · exact st2.1.at fun o q => (sb.2 i2 (off i2 (by simp))).trans q
      · rw [put_same, List.take_add_one, at_i]; rfl
      · rw [put_put] at r'
        exact fin s' H' J' (nT.1.trans (k2.trans k')) r'
end
end DL
/-! D24: list(zip(s, t)), the call. -/
namespace DL
open PySem PySem.Spec PyProof.Rows L2

theorem nadd {N a b : Nat} (h : a ≠ b) : @Ne Nat (N + a) (N + b) := fun e => h (Nat.add_left_cancel e)
theorem ngt {N a l : Nat} (h : l < N) : @Ne Nat (N + a) l := fun e => by omega
theorem nmem {x a b : Addr} (h1 : x ≠ a) (h2 : x ≠ b) : x ∉ [a, b] := by
  intro e; simp only [List.mem_cons, List.not_mem_nil, or_false] at e; rcases e with e | e
  · exact h1 e
  · exact h2 e
theorem sep_of {N la lb : Nat} (h1 : la < N) (h2 : lb < N) : ZipSep2 (N + 4) (N + 2) (N + 3) N (N + 1) [N, la] [N + 1, lb] :=
  { TIz := nadd (by decide), TOz := nadd (by decide), TITO := nadd (by decide), TIi1 := nadd (b := 0) (by decide), mem1 := List.mem_cons_self .., zf1 := nmem (nadd (b := 0) (by decide)) (ngt h1),
    Tf1 := nmem (nadd (b := 0) (by decide)) (ngt h1), TIi2 := nadd (by decide), mem2 := List.mem_cons_self .., zf2 := nmem (nadd (by decide)) (ngt h2), Tf2 := nmem (nadd (by decide)) (ngt h2),
    sep1_2 := nmem (nadd (a := 0) (by decide)) (ngt (a := 0) h2), sep2_1 := nmem (nadd (b := 0) (by decide)) (ngt h1) }
theorem zip_len : typeLookup (.type "zip") "__len__" = pure none := by rw [typeLookup_type, builtinLookup_eq_fast]; kernel_rfl
theorem zip_hint : typeLookup (.type "zip") "__length_hint__" = pure none := by rw [typeLookup_type, builtinLookup_eq_fast]; kernel_rfl
section
variable {X : Cx} {pins : List (Addr × Obj)} {σ : L2.St}
/-- from its first item on -/
theorem zip_first {A : Around} {R : Result → Shared → Prop} {S z TI TO i1 i2 la lb : Addr} {xs ys : List D} {a1 a2 : Value} {H : Hp} {h : DH} {s : Shared} (hh : A.handled = none) (hz : (pairs xs ys).length ≤ sizeLine) (sp : ZipSep2 z TI TO i1 i2 [i1, la] [i2, lb]) (na : la ≠ i1) (nb : lb ≠ i2) (nS : S ∉ [z, TI, TO, i1, i2])
    (I : L2.Inv X pins σ H s) (fo : ∀ b ∈ [z, TI, TO, i1, i2], FpOk X pins H b) (zh : IsZip s.heap z TI TO .none) (hTI : IsTupOf2 s.heap TI (.ref i1) (.ref i2)) (hTO : IsTupOf2 s.heap TO a1 a2) (hi1 : s.heap.IsTupleIter i1 la 0) (hi2 : s.heap.IsTupleIter i2 lb 0)
    (rx : RD X.K X.w H (.tup xs) (.ref la)) (ry : RD X.K X.w H (.tup ys) (.ref lb)) (rh : RH X.K X.w H h) (hS : h S = some (.lst []))
    (fin : ∀ s' H', L2.Inv X pins σ H' s' → Keeps H H' → RH X.K X.w H' (put h S (.lst (pairs xs ys))) → R (.ok (.ret .none)) s') : codeAny (model X.prog X.w) A (.builtin "list.extend.loop" ⟨[.ref S, .ref z, .none], []⟩) R s := by
  have ap : Apart z TI i1 i2 [i1, la] [i2, lb] := ⟨sp.zf1, sp.zf2, sp.zi1, sp.zi2, sp.sep1_2, sp.sep2_1⟩
  obtain ⟨_, vs1, e1, sq1, rs1⟩ := id rx
  cases e1
  obtain ⟨_, vs2, e2, sq2, rs2⟩ := id ry
  cases e2
  obtain ⟨its1, rv1, tp1, _⟩ := I.tuple sq1
  obtain ⟨its2, rv2, tp2, _⟩ := I.tuple sq2
  have z1 : its1.toArray.size = xs.length := by rw [List.size_toArray, ← rv1.length, rs1.length]
  have z2 : its2.toArray.size = ys.length := by rw [List.size_toArray, ← rv2.length, rs2.length]
  have pl := pairs_length xs ys
  have D1 := Draws.tuple (prog := X.prog) (w := X.w) (A := A.in1.in1) (show A.in1.in1.handled = none from hh) i1 la na its1.toArray
  have D2 := Draws.tuple (prog := X.prog) (w := X.w) (A := A.in1.in1) (show A.in1.in1.handled = none from hh) i2 lb nb its2.toArray
  refine codeAny_builtin PySem.F.entry_extend_loop ?_
  rw [Around.under_plainId PySem.F.plain_extend_loop _]
  show wpAny _ A.in1 (pyNext (.ref z) >>= _) _ _ s
  have nin : ∀ {c b : Addr}, c ∉ [z, TI, TO, i1, i2] → b ∈ [z, TI, TO, i1, i2] → c ≠ b := fun hc hb e => hc (by rw [e]; exact hb)
  by_cases some_ : 0 < xs.length ∧ 0 < ys.length
  · obtain ⟨l1, l2⟩ := some_
    refine wpAny_bind (wpAny_pyNext_zipD2_item sp D1 D2 zh hTI hTO ⟨hi1, tp1⟩ ⟨hi2, tp2⟩ (by omega) (by omega) fun x1 x2 h' tk p1 p2 zh' hTO' st1 st2 new sz keep => ?_)
    obtain ⟨v1, ev1, rd1⟩ := rs1.get (List.getElem?_eq_getElem l1)
    obtain ⟨v2, ev2, rd2⟩ := rs2.get (List.getElem?_eq_getElem l2)
    obtain ⟨u1, eu1, ru1⟩ := rv1.get ev1
    obtain ⟨u2, eu2, ru2⟩ := rv2.get ev2
    have q1 : u1 = x1 := by
      have q := p1
      rw [List.getElem?_toArray, eu1] at q
      exact Option.some.inj q
    have q2 : u2 = x2 := by
      have q := p2
      rw [List.getElem?_toArray, eu2] at q
      exact Option.some.inj q
    subst q1; subst q2
    have nf : H s.heap.objs.size = none := I.hok.fresh (Nat.le_refl _)
    have ob : ObjOk X.prog X.w (upd H s.heap.objs.size (.tup [v1, v2])) h' s.heap.objs.size (.tup [v1, v2]) := ⟨by show 2 ≤ sizeLine; decide, [u1, u2], .cons ru1 (.cons ru2 .nil), ⟨_, new, rfl, _, rfl⟩⟩
    have I1 : L2.Inv X pins σ (upd H s.heap.objs.size (.tup [v1, v2])) { s with heap := h', toks := tk } :=
      I.turnedNew (ch := [z, TI, TO, i1, i2]) (fun c o hb q => keep c o (fun e => hb (by rw [e]; simp)) (fun e => hb (by rw [e]; simp)) (fun e => hb (by rw [e]; simp)) (fun e => hb (by rw [e]; simp)) q) fo (Nat.le_refl _) ob
    have nT := RH.newT (vs := [v1, v2]) rh nf
    have rdp : RD X.K X.w (upd H s.heap.objs.size (.tup [v1, v2])) (.tup [xs[0], ys[0]]) (.ref s.heap.objs.size) := RD.newT nf ⟨v1, _, rfl, rd1, v2, _, rfl, rd2, rfl⟩
    have at_0 : (pairs xs ys)[0]? = some (.tup [xs[0], ys[0]]) := by
      unfold pairs
      rw [List.getElem?_zipWith, List.getElem?_eq_getElem l1, List.getElem?_eq_getElem l2]
    show wpAny _ _ (updateSeq S (·.push (.ref s.heap.objs.size)) >>= _) _ _ _
    refine wpAny_bind (push_ok I1 nT.2 hS (by rw [List.length_nil, sizeLine_eq]; decide) (y := .ref s.heap.objs.size) rfl rdp fun h2 H2 J k2 rh2 sb nonew => ?_)
    have live : ∀ b ∈ [z, TI, i1, i2], b < s.heap.objs.size := fun b hb => by
      simp only [List.mem_cons, List.not_mem_nil, or_false] at hb
      rcases hb with e | e | e | e
      · rw [e]; exact Heap.lt_size zh
      · rw [e]; exact Heap.lt_size hTI
      · rw [e]; obtain ⟨_, q, _⟩ := hi1; exact Heap.lt_size q
      · rw [e]; obtain ⟨_, q, _⟩ := hi2; exact Heap.lt_size q
    have up : ∀ b ∈ [z, TI, i1, i2], b ∈ [z, TI, TO, i1, i2] := fun b hb => by
      simp only [List.mem_cons, List.not_mem_nil, or_false] at hb ⊢
      rcases hb with e | e | e | e <;> simp [e]
    have off : ∀ b ∈ [z, TI, i1, i2], b ≠ S := fun b hb e => nS (by rw [← e]; exact up b hb)
    have nS2 : S ∉ [z, TI, i1, i2] := fun e => nS (up S e)
    have lS : S < s.heap.objs.size := by
      obtain ⟨us, g, _⟩ := rh.lst hS
      exact I.hok.lt g
    refine wpAny_pure ⟨plainId_quiet PySem.F.plain_extend_loop _, zip_loop (TO := TO) hh hz ap sp.TIz sp.TIi1 sp.TIi2 na nb nS2 ((pairs xs ys).length - 1) 1 H2 _ { s with heap := h2, toks := tk } s.heap.objs.size false _ (by omega) J (fun b hb => ?_) ?_ ((sb.2 _ (Nat.ne_of_gt lS)).trans new) (Nat.ne_of_gt (live z (by simp))) (Nat.ne_of_gt (live i1 (by simp))) (Nat.ne_of_gt (live i2 (by simp))) (Nat.ne_of_gt lS) ?_ ?_ ?_ (RD.keep (nT.1.trans k2) _ _ rx) (RD.keep (nT.1.trans k2) _ _ ry) rh2 ?_ fun s' H' J' k' r' => ?_⟩
    · refine ⟨?_, (fo b (up b hb)).2⟩
      cases q : H2 b with
      | none => rfl
      | some u => exact (nonew b u q (by rw [upd_ne (Nat.ne_of_lt (live b hb))]; exact (fo b (up b hb)).1)).elim
    · exact (sb.2 z (off z (by simp))).trans zh'
    · exact (sb.2 TI (off TI (by simp))).trans (keep TI _ sp.TIz sp.TITO sp.TIi1 sp.TIi2 hTI)
    · exact st1.1.at fun o q => (sb.2 i1 (off i1 (by simp))).trans q
    · exact st2.1.at fun o q => (sb.2 i2 (off i2 (by simp))).trans q
    · rw [put_same, List.take_add_one, at_0]; rfl
    · rw [put_put] at r'
      exact fin s' H' J' (nT.1.trans (k2.trans k')) r'
  · have none_ : xs.length = 0 ∨ ys.length = 0 := by omega
    refine wpAny_bind (wpAny_pyNext_zipD2_end sp D1 D2 zh hTI hTO ⟨hi1, tp1⟩ ⟨hi2, tp2⟩ (by omega) (by omega) (by omega) fun h' tk keep => ?_)
    show wpAny _ _ (ret Value.none) _ _ _
    refine wpAny_pure ?_
    have e0 : pairs xs ys = [] := List.length_eq_zero_iff.mp (by omega)
    have same : put h S (.lst (pairs xs ys)) = h := by
      funext c
      by_cases q : c = S
      · rw [q, put_same, hS, e0]
      · rw [put_ne q]
    refine fin _ H (I.turnedL (t' := tk) (ch := [z, TI, TO, i1, i2]) (fun c o hb q => keep c o (fun e => hb (by rw [e]; simp)) (fun e => hb (by rw [e]; simp)) (fun e => hb (by rw [e]; simp)) (fun e => hb (by rw [e]; simp)) q) fo) (Keeps.refl _) ?_
    rw [same]; exact rh
/-- list(z), z a zip of two tuples just made -/
theorem call_listZ {z TI TO i1 i2 la lb : Addr} {xs ys : List D} {a1 a2 : Value} {H : Hp} {h : DH} {s : Shared} {P : DK} {Q : VK} (hh : X.A.handled = none) (hz : (pairs xs ys).length ≤ sizeLine) (sp : ZipSep2 z TI TO i1 i2 [i1, la] [i2, lb]) (na : la ≠ i1) (nb : lb ≠ i2)
    (I : L2.Inv X pins σ H s) (fo : ∀ b ∈ [z, TI, TO, i1, i2], FpOk X pins H b) (lt : ∀ b ∈ [z, TI, TO, i1, i2], b < s.heap.objs.size) (zh : IsZip s.heap z TI TO .none) (hTI : IsTupOf2 s.heap TI (.ref i1) (.ref i2)) (hTO : IsTupOf2 s.heap TO a1 a2) (hi1 : s.heap.IsTupleIter i1 la 0) (hi2 : s.heap.IsTupleIter i2 lb 0)
    (rx : RD X.K X.w H (.tup xs) (.ref la)) (ry : RD X.K X.w H (.tup ys) (.ref lb)) (rh : RH X.K X.w H h) (q : fresh h (.lst (pairs xs ys)) fun p h' => P (.ref p) h') (f : Fin X.K X.w H P Q) :
    wpAny (model X.prog X.w) X.A (call (.type "list") [.ref z]) (EP X pins σ Q) X.xe s := by
  refine callType_codes (Q₁ := fun obj s₁ => obj = .ref s.heap.objs.size ∧ s₁ = { s with heap := s.heap.push { cls := .type "list", data := .seq #[] } }) PySem.F.called_list (PySem.F.typeCall_list_1 _) PySem.F.entry_list_init (code_list_new _ ⟨rfl, rfl⟩) ?_
  rintro obj s₁ ⟨rfl, rfl⟩
  have hS : (s.heap.push { cls := .type "list", data := .seq #[] }).get? s.heap.objs.size = some { cls := .type "list", data := .seq #[] } := Heap.get?_push_size _ rfl
  refine ⟨⟨_, hS, rfl⟩, PySem.F.args_list_init_2 _ _, ?_⟩
  have nf : H s.heap.objs.size = none := I.hok.fresh (Nat.le_refl _)
  show wpAny _ _ (do let old ← Builtin.List.listItems (.ref s.heap.objs.size); Builtin.List.listUpdate (.ref s.heap.objs.size) (fun _ => #[]); letGo old.toList.reverse; Builtin.List.listExtendWith (.ref s.heap.objs.size) (.ref z) .none) _ _ _
  refine wpAny_bind ?_
  unfold Builtin.List.listItems
  refine wpAny_bind (wpAny_seqItems hS rfl (wpAny_pure ?_))
  show wpAny _ _ (updateSeq s.heap.objs.size (fun _ => #[]) >>= fun _ => letGo (#[] : Array Value).toList.reverse >>= fun _ => Builtin.List.listExtendWith (.ref s.heap.objs.size) (.ref z) .none) _ _ _
  refine wpAny_bind (wpAny_updateSeq hS rfl ?_)
  have hS2 := Heap.get?_update_self (Obj.mapSeq (fun _ => (#[] : Array Value))) hS rfl
  have old : ∀ b o, s.heap.get? b = some o → ((s.heap.push { cls := .type "list", data := .seq #[] }).update s.heap.objs.size (Obj.mapSeq (fun _ => (#[] : Array Value)))).get? b = some o := fun b o e =>
    (Heap.get?_update_other _ _ (Nat.ne_of_gt (Heap.lt_size e))).trans (Heap.get?_push_of_some _ e)
  have I2 : L2.Inv X pins σ (upd H s.heap.objs.size (.lst [])) { s with heap := (s.heap.push { cls := .type "list", data := .seq #[] }).update s.heap.objs.size (Obj.mapSeq (fun _ => (#[] : Array Value))) } :=
    I.laid (t' := s.toks) old (Nat.le_refl _) ⟨Nat.zero_le _, [], _, .nil, hS2⟩
  have n := RH.newL (ds := []) (vs := []) rh nf rfl
  refine wpAny_bind (wpAny_letGo ?_)
  have ty : Shared.TypeIs { s with heap := (s.heap.push { cls := .type "list", data := .seq #[] }).update s.heap.objs.size (Obj.mapSeq (fun _ => (#[] : Array Value))) } (.ref z) "zip" := ⟨_, old _ _ zh, rfl⟩
  unfold Builtin.List.listExtendWith
  refine wpAny_bind (wpAny_typeOf ty ?_)
  have ne : s.heap.objs.size ≠ z := Nat.ne_of_gt (lt z (by simp))
  have c1 : Builtin.List.listSameRef (.ref s.heap.objs.size) (.ref z) = false := by simp [Builtin.List.listSameRef, ne]
  have c2 : (Value.type "zip" == Value.type "list") = false := by decide
  have c3 : (Value.type "zip" == Value.type "tuple") = false := by decide
  simp only [c1, c2, c3, Bool.or_false, Bool.false_eq_true, if_false]
  refine wpAny_bind (wpAny_pyIter_zip (old _ _ zh) ?_)
  refine wpAny_bind (wpAny_holding ?_)
  unfold Builtin.List.listLengthHint
  refine wpAny_bind (wpAny_specialOf ty zip_len ?_)
  show wpAny _ _ (specialOf (Value.ref z) (Str.ofString "__length_hint__") >>= _) _ _ _
  refine wpAny_bind (wpAny_specialOf ty zip_hint ?_)
  refine wpAny_pure ?_
  simp only [Bool.true_or, if_true]
  refine wpAny_bind (wpAny_rule ?_)
  refine wpAny_bind ?_
  show wpAny _ _ (updateSeq s.heap.objs.size (·.push .none) >>= fun _ => updateSeq s.heap.objs.size (·.pop)) _ _ _
  refine wpAny_bind (wpAny_updateSeq hS2 rfl ?_)
  have hS3 := Heap.get?_update_self (Obj.mapSeq (·.push Value.none)) hS2 rfl
  refine wpAny_updateSeq (hz := by seq_fits) hS3 rfl ?_
  have hS4 := Heap.get?_update_self (Obj.mapSeq (·.pop)) hS3 rfl
  have old2 : ∀ b o, s.heap.get? b = some o → ((((s.heap.push { cls := .type "list", data := .seq #[] }).update s.heap.objs.size (Obj.mapSeq (fun _ => (#[] : Array Value)))).update s.heap.objs.size (Obj.mapSeq (·.push Value.none))).update s.heap.objs.size (Obj.mapSeq (·.pop))).get? b = some o := fun b o e =>
    have nb := Nat.ne_of_gt (Heap.lt_size e)
    (Heap.get?_update_other _ _ nb).trans ((Heap.get?_update_other _ _ nb).trans (old b o e))
  have I3 : L2.Inv X pins σ (upd H s.heap.objs.size (.lst [])) { s with heap := (((s.heap.push { cls := .type "list", data := .seq #[] }).update s.heap.objs.size (Obj.mapSeq (fun _ => (#[] : Array Value)))).update s.heap.objs.size (Obj.mapSeq (·.push Value.none))).update s.heap.objs.size (Obj.mapSeq (·.pop)) } :=
    I.laid (t' := s.toks) old2 (Nat.le_refl _) ⟨Nat.zero_le _, [], _, .nil, hS4⟩
  have ltS : ∀ b ∈ [z, TI, TO, i1, i2], b ≠ s.heap.objs.size := fun b hb => Nat.ne_of_lt (lt b hb)
  refine wpAny_pure ⟨plainId_quiet PySem.F.plain_extend_loop _, zip_first (A := X.A.in1) hh hz sp na nb (fun e => ltS _ e rfl) I3 (fun b hb => ⟨by rw [upd_ne (ltS b hb)]; exact (fo b hb).1, (fo b hb).2⟩) (old2 _ _ zh) (old2 _ _ hTI) (old2 _ _ hTO) (hi1.at fun o e => old2 _ _ e) (hi2.at fun o e => old2 _ _ e)
    (RD.keep n.1 _ _ rx) (RD.keep n.1 _ _ ry) n.2 put_same fun s' H' J k' r' => ⟨rfl, .ref s.heap.objs.size, H', J, rfl, f _ _ _ _ (q _ (rh.free nf)) (n.1.trans k') (by rw [put_put] at r'; exact r') rfl⟩⟩
end

section
variable {X : Cx}
/-- list(zip(s, t)), s and t tuples -/
def dListZip (t : DTA) : DTE := fun σ h P => t σ h fun ds h1 => match ds with
  | [.tup xs, .tup ys] => (pairs xs ys).length ≤ sizeLine ∧ fresh h1 (.lst (pairs xs ys)) fun p h2 => P (.ref p) h2
  | _ => False
theorem de_listZip {a b : Expr} {t : DTA} {p1 p2 q1 q2 : Pos} (hc : X.calm = true) (g1 : Gl X "list") (m1 : X.mg "list" = none) (g2 : Gl X "zip") (m2 : X.mg "zip" = none) (ha : DA X [a, b] t)
    (hs : starEach [a, b] X.env = (false, eval a X.env) :: starEach [b] X.env := by rfl) (hpl : (backTo q2 (starEach [b] X.env)).any (·.1) = false := by rfl)
    (na : starEach [.Call (.Name "zip" q1) [a, b] [] q2] X.env = (false, eval (.Call (.Name "zip" q1) [a, b] [] q2) X.env) :: starEach [] X.env := by rfl) :
    DE X (.Call (.Name "list" p1) [.Call (.Name "zip" q1) [a, b] [] q2] [] p2) (dListZip t) := by
  refine ⟨⟨fun pins s σ H Q I ⟨dσ, h, P, rs, rh, q, f⟩ => ?_⟩⟩
  have inner : wpAny (model X.prog X.w) X.A (eval (.Call (.Name "zip" q1) [a, b] [] q2) X.env) (fun x s1 => wpAny (model X.prog X.w) X.A (call (.type "list") [x]) (EP X pins σ Q) X.xe s1) X.xe s := by
    refine Call_ (ld_blt I g2 m2 PyProof.Rows.boot_zip (PyProof.Rows.callWith_type1 (thn (ha.pa.run q2 pins s σ H (fun vs H1 => ∃ ds h1, RDs X.K X.w H1 ds vs ∧ RH X.K X.w H1 h1 ∧ Keeps H H1 ∧ match ds with
      | [.tup xs, .tup ys] => (pairs xs ys).length ≤ sizeLine ∧ fresh h1 (.lst (pairs xs ys)) fun p h2 => P (.ref p) h2
      | _ => False) I ⟨dσ, h, _, rs, rh, q, fun ds h1 vs H1 q1 k1 rh1 r1 => ⟨ds, h1, r1, rh1, k1, q1⟩⟩) fun us s1 ⟨vs, H1, I1, r1, ds, h1, rd, rh1, k1, q1⟩ => ?_) hs hpl))
    split at q1
    · rename_i xs ys
      obtain ⟨hz, q1⟩ := q1
      obtain ⟨v, u, rfl, rv, ru⟩ := rd.two
      obtain ⟨la, vs1, rfl, sq1, t1⟩ := id rv
      obtain ⟨lb, vs2, rfl, sq2, t2⟩ := id ru
      obtain ⟨w1, w2, rfl, e1, e2⟩ := vals2 r1
      cases e1; cases e2
      obtain ⟨its1, _, tp1, _⟩ := I1.tuple sq1
      obtain ⟨its2, _, tp2, _⟩ := I1.tuple sq2
      have la_lt : la < s1.heap.objs.size := by obtain ⟨_, e, _⟩ := (show s1.heap.IsTuple la its1.toArray from tp1); exact Heap.lt_size e
      have lb_lt : lb < s1.heap.objs.size := by obtain ⟨_, e, _⟩ := (show s1.heap.IsTuple lb its2.toArray from tp2); exact Heap.lt_size e
      refine RZ.call_zipT tp1 tp2 fun h' zh hTI hTO hi1 hi2 sz keep => ?_
      have I2 : L2.Inv X pins σ H1 { s1 with heap := h' } := I1.kept (t' := s1.toks) keep
      have sp : ZipSep2 (s1.heap.objs.size + 4) (s1.heap.objs.size + 2) (s1.heap.objs.size + 3) s1.heap.objs.size (s1.heap.objs.size + 1) [s1.heap.objs.size, la] [s1.heap.objs.size + 1, lb] := sep_of la_lt lb_lt
      refine call_listZ (P := P) (h := h1) (I1.ok.hd hc) hz sp (Nat.ne_of_lt la_lt) (Nat.ne_of_lt (Nat.lt_succ_of_lt lb_lt)) I2 (fun b hb => ?_) (fun b hb => ?_) zh hTI hTO hi1 hi2 rv ru rh1 q1 (f.keep k1)
      · have hle : s1.heap.objs.size ≤ b := by
          simp only [List.mem_cons, List.not_mem_nil, or_false] at hb
          rcases hb with e | e | e | e | e <;> rw [e] <;> first | exact Nat.le_refl _ | exact Nat.le_add_right _ _
        exact I1.fpOk hle (I1.hok.fresh hle)
      · show b < h'.objs.size
        rw [sz]
        simp only [List.mem_cons, List.not_mem_nil, or_false] at hb
        rcases hb with e | e | e | e | e <;> rw [e] <;> first | exact Nat.lt_add_of_pos_right (by decide) | exact Nat.add_lt_add_left (by decide) _
    · exact q1.elim
  refine Call_ (ld_blt I g1 m1 PyProof.Rows.boot_list (PyProof.Rows.callWith_type1 (args_cons (thn inner fun x s1 hx => args_nil ?_) na) na))
  exact hx
end
end DL
/-! D25: zip of a tuple and a list, in a for or a comprehension. -/
namespace DL
open PySem PySem.Spec PyProof.Rows L2

/-- the tuple at a and the list at b as they stand at each turn, the items in new pairs -/
def ItzM (K : PySem.W.Frag) (a b : Addr) : It :=
  ⟨fun i H => ∃ (xs ys : List V) (x y : V), SqT K H a xs ∧ SqL K H b ys ∧ xs[i]? = some x ∧ ys[i]? = some y,
    fun i H v H' => ∃ T x y, v = .ref T ∧ H T = none ∧ H' = upd H T (.tup [x, y]) ∧ (∀ xs, SqT K H a xs → xs[i]? = some x) ∧ ∀ ys, SqL K H b ys → ys[i]? = some y,
    fun i H => ∃ xs ys : List V, SqT K H a xs ∧ SqL K H b ys ∧ i ≤ xs.length ∧ i ≤ ys.length ∧ (i = xs.length ∨ i = ys.length)⟩
theorem turn_zipM {P : Program} {w : World} {K : PySem.W.Frag} {elts : List Expr} {kk : Nat} {tpos : Pos} {a b z TI TO i1 i2 : Addr} (D : ZipSep2 z TI TO i1 i2 [i1, a] [i2, b]) (na : a ≠ i1) (nb : b ≠ i2) :
    Turn P w K (.Tuple elts kk tpos) (ItzM K a b) [z, TI, TO, i1, i2] z (fun i h => IsZip h z TI TO .none ∧ IsTupOf2 h TI (.ref i1) (.ref i2) ∧ (∃ x y, IsTupOf2 h TO x y) ∧ h.IsTupleIter i1 a i ∧ h.IsListIter i2 b i) where
  mem := by simp
  obj := fun i h st c hc => by
    obtain ⟨hz, hTI, ⟨x, y, hTO⟩, ⟨o1, e1, _, d1⟩, ⟨o2, e2, _, d2⟩⟩ := st
    have e' : c = z ∨ c = TI ∨ c = TO ∨ c = i1 ∨ c = i2 := by simpa using hc
    rcases e' with q | q | q | q | q
    · rw [q]; exact ⟨_, hz, fun v q => nomatch q⟩
    · rw [q]; exact ⟨_, hTI, fun v q => nomatch q⟩
    · rw [q]; exact ⟨_, hTO, fun v q => nomatch q⟩
    · rw [q]; exact ⟨o1, e1, fun v q => by rw [d1] at q; cases q⟩
    · rw [q]; exact ⟨o2, e2, fun v q => by rw [d2] at q; cases q⟩
  keep := fun i h h' st k => by
    obtain ⟨hz, hTI, ⟨x, y, hTO⟩, h1, h2⟩ := st
    exact ⟨k z (by simp) _ hz, k TI (by simp) _ hTI, ⟨x, y, k TO (by simp) _ hTO⟩, h1.at fun o q => k i1 (by simp) o q, h2.at fun o q => k i2 (by simp) o q⟩
  item := by
    intro X hP hw hK hc i pins s σ H E I hf st hg
    subst hP hw hK
    obtain ⟨hz, hTI, ⟨x0, y0, hTO⟩, h1, h2⟩ := st
    obtain ⟨xs, ys, x, y, hqx, hqy, hx, hy⟩ := hg
    obtain ⟨its, rv, p, _⟩ := I.tuple hqx
    obtain ⟨its2, rv2, p2, _⟩ := I.list hqy
    obtain ⟨u, hu, ru⟩ := rv.get hx
    obtain ⟨u2, hu2, ru2⟩ := rv2.get hy
    have hzl : z < s.heap.objs.size := Heap.lt_size hz
    have lt1 : i < its.toArray.size := by
      rw [List.size_toArray]; exact (List.getElem?_eq_some_iff.mp hu).1
    have lt2 : i < its2.toArray.size := by
      rw [List.size_toArray]; exact (List.getElem?_eq_some_iff.mp hu2).1
    have D1 := Draws.tuple (prog := X.prog) (w := X.w) (A := X.A.in1) (show X.A.in1.handled = none from I.ok.hd hc) i1 a na its.toArray
    have D2 := Draws.list (prog := X.prog) (w := X.w) (A := X.A.in1) (show X.A.in1.handled = none from I.ok.hd hc) i2 b nb its2.toArray
    refine wpAny_pyNext_zipD2_item D D1 D2 hz hTI hTO ⟨h1, p⟩ ⟨h2, p2.isList⟩ lt1 lt2 fun x1 x2 h' tk y1 y2 z' TO' st1 st2 hT hsz hk => ?_
    have q1 : u = x1 := by
      have q := y1
      rw [List.getElem?_toArray, hu] at q
      exact Option.some.inj q
    have q2 : u2 = x2 := by
      have q := y2
      rw [List.getElem?_toArray, hu2] at q
      exact Option.some.inj q
    subst q1; subst q2
    refine ⟨_, rfl, wpAny_letOwnedTupleGo_zip (s := { s with heap := h', toks := tk }) z' fun h'' z'' sb => ?_⟩
    have hT2 : h''.get? s.heap.objs.size = some { cls := .type "tuple", data := .seq #[u, u2] } := (sb.2 _ (Nat.ne_of_gt hzl)).trans hT
    have new : ObjOk X.prog X.w (upd H s.heap.objs.size (.tup [x, y])) h'' s.heap.objs.size (.tup [x, y]) :=
      ⟨by show 2 ≤ sizeLine; decide, [u, u2], .cons ru (.cons ru2 .nil), ⟨_, hT2, rfl, _, rfl⟩⟩
    have I1 : L2.Inv X pins σ (upd H s.heap.objs.size (.tup [x, y])) { s with heap := h'', toks := tk } :=
      I.turnedNew (t' := tk) (ch := [z, TI, TO, i1, i2]) (fun c o hb q => (sb.2 c (fun q' => hb (by simp [q']))).trans (hk c o (fun q' => hb (by simp [q'])) (fun q' => hb (by simp [q'])) (fun q' => hb (by simp [q'])) (fun q' => hb (by simp [q'])) q)) hf (Nat.le_refl _) new
    refine ⟨.ref s.heap.objs.size, _, I1, rfl, ⟨_, x, y, rfl, I.hok.fresh (Nat.le_refl _), rfl, fun l hl => by rw [I.tuple_inj hl hqx]; exact hx, fun l hl => by rw [I.list_inj hl hqy]; exact hy⟩, ⟨z'', ?_, ⟨u, u2, ?_⟩, ?_, ?_⟩, fun c hcm => ?_⟩
    · exact (sb.2 _ D.TIz).trans (hk _ _ D.TIz D.TITO D.TIi1 D.TIi2 hTI)
    · exact (sb.2 _ D.TOz).trans TO'
    · exact st1.1.at fun o q => (sb.2 _ D.zi1.symm).trans q
    · exact st2.1.at fun o q => (sb.2 _ D.zi2.symm).trans q
    · have hlt : c < s.heap.objs.size := by
        have e' : c = z ∨ c = TI ∨ c = TO ∨ c = i1 ∨ c = i2 := by simpa using hcm
        rcases e' with q | q | q | q | q
        · rw [q]; exact hzl
        · rw [q]; exact Heap.lt_size hTI
        · rw [q]; exact Heap.lt_size hTO
        · rw [q]; obtain ⟨_, e1, _⟩ := h1; exact Heap.lt_size e1
        · rw [q]; obtain ⟨_, e2, _⟩ := h2; exact Heap.lt_size e2
      rw [upd_ne (Nat.ne_of_lt hlt)]
      exact (hf c hcm).1
  done := by
    intro X hP hw hK hc i pins s σ H E I hf st hg
    subst hP hw hK
    obtain ⟨hz, hTI, ⟨x0, y0, hTO⟩, h1, h2⟩ := st
    obtain ⟨xs, ys, hqx, hqy, le1, le2, hend⟩ := hg
    obtain ⟨its, rv, p, _⟩ := I.tuple hqx
    obtain ⟨its2, rv2, p2, _⟩ := I.list hqy
    have l1 : its.toArray.size = xs.length := by rw [List.size_toArray, ← rv.length]
    have l2 : its2.toArray.size = ys.length := by rw [List.size_toArray, ← rv2.length]
    have D1 := Draws.tuple (prog := X.prog) (w := X.w) (A := X.A.in1) (show X.A.in1.handled = none from I.ok.hd hc) i1 a na its.toArray
    have D2 := Draws.list (prog := X.prog) (w := X.w) (A := X.A.in1) (show X.A.in1.handled = none from I.ok.hd hc) i2 b nb its2.toArray
    exact wpAny_pyNext_zipD2_end D D1 D2 hz hTI hTO ⟨h1, p⟩ ⟨h2, p2.isList⟩ (by omega) (by omega) (by omega) fun h' tk hk => ⟨rfl, I.turnedL (t' := tk) (ch := [z, TI, TO, i1, i2]) (fun c o hb q =>
      hk c o (fun q' => hb (by simp [q'])) (fun q' => hb (by simp [q'])) (fun q' => hb (by simp [q'])) (fun q' => hb (by simp [q'])) q) hf⟩
  self := fun A i s Q E st h => wpAny_pyIter_zip st.1 h

def iZipM (K : PySem.W.Frag) (ta : TA) : TI := fun σ H R => ta σ H fun vs H1 => ∃ a b xs ys, vs = [.ref a, .ref b] ∧ SqT K H1 a xs ∧ SqL K H1 b ys ∧ R (ItzM K a b) H1
theorem pi_zipM {X : Cx} {e e2 : Expr} {ta : TA} {p pos tpos : Pos} {elts : List Expr} {kk : Nat} (hg : Gl X "zip") (hm : X.mg "zip" = none) (ha : PA X [e, e2] ta)
    (hs : starEach [e, e2] X.env = (false, eval e X.env) :: starEach [e2] X.env := by rfl) (hpl : (backTo pos (starEach [e2] X.env)).any (·.1) = false := by rfl) :
    PI X (.Tuple elts kk tpos) (.Call (.Name "zip" p) [e, e2] [] pos) (iZipM X.K ta) := by
  refine ⟨fun pins s σ H R I h => ?_⟩
  refine Call_ (ld_blt I hg hm PyProof.Rows.boot_zip (PyProof.Rows.callWith_type1 (thn (ha.run pos pins s σ H _ I h) fun us s1 ⟨vs, H1, I1, r1, q1⟩ => ?_) hs hpl))
  obtain ⟨a, b, xs, ys, ex, hqx, hqy, q⟩ := q1
  subst ex
  obtain ⟨w1, w2, rfl, e1, e2⟩ := vals2 r1
  cases e1; cases e2
  have fresh5 : ∀ c, c ∈ [s1.heap.objs.size + 4, s1.heap.objs.size + 2, s1.heap.objs.size + 3, s1.heap.objs.size, s1.heap.objs.size + 1] → FpOk X pins H1 c := fun c hcm => by
    have hle : s1.heap.objs.size ≤ c := by
      simp only [List.mem_cons, List.not_mem_nil, or_false] at hcm
      rcases hcm with e | e | e | e | e <;> rw [e] <;> first | exact Nat.le_refl _ | exact Nat.le_add_right _ _
    exact I1.fpOk hle (I1.hok.fresh hle)
  obtain ⟨its, rv, p1, _⟩ := I1.tuple hqx
  obtain ⟨its2, rv2, p2, _⟩ := I1.list hqy
  have al : a < s1.heap.objs.size := by obtain ⟨_, e, _⟩ := (show s1.heap.IsTuple a its.toArray from p1); exact Heap.lt_size e
  have bl : b < s1.heap.objs.size := p2.lt
  refine zip_begins2 (begins_tuple a its.toArray) (begins_list b its2.toArray) p1 p2.isList fun h' hz hTI hTO g1 g2 hsz hk => wpAny_pyIter_zip hz ?_
  have I2 : L2.Inv X pins σ H1 { s1 with heap := h' } := I1.kept (t' := s1.toks) hk
  exact ⟨s1.heap.objs.size + 4, [s1.heap.objs.size + 4, s1.heap.objs.size + 2, s1.heap.objs.size + 3, s1.heap.objs.size, s1.heap.objs.size + 1], _, _, H1, rfl, I2, turn_zipM (sep_of al bl) (Nat.ne_of_lt al) (Nat.ne_of_lt (Nat.lt_succ_of_lt bl)), ⟨hz, hTI, ⟨_, _, hTO⟩, ⟨_, g1, rfl, rfl⟩, ⟨_, g2, rfl, rfl⟩⟩, fresh5, q⟩

section
variable {X : Cx} {e : Expr} {pos : Pos}
def iZpM (ta : DTA) : DTI := fun σ h P => ta σ h fun ds h1 => match ds with
  | [.tup xs, d] => seqAt d h1 fun ys => P (pairs xs ys) (seqSt d ys) h1
  | _ => False
theorem di_zipM {e2 : Expr} {ta : DTA} {p tpos : Pos} {elts : List Expr} {kk : Nat} (hg : Gl X "zip") (hm : X.mg "zip" = none) (ha : DA X [e, e2] ta)
    (hs : starEach [e, e2] X.env = (false, eval e X.env) :: starEach [e2] X.env := by rfl) (hpl : (backTo pos (starEach [e2] X.env)).any (·.1) = false := by rfl) :
    DI X (.Tuple elts kk tpos) (.Call (.Name "zip" p) [e, e2] [] pos) (iZpM ta) := by
  refine ⟨piImp (pi_zipM hg hm ha.pa hs hpl) ?_⟩
  rintro σ H R ⟨dσ, h, P, rs, rh, q, f⟩
  refine ⟨dσ, h, _, rs, rh, q, fun ds h1 vs H1 q1 k1 rh1 r1 => ?_⟩
  split at q1
  · obtain ⟨v, u, rfl, rv, ru⟩ := r1.two
    obtain ⟨a, vs, rfl, s1, t1⟩ := rv
    obtain ⟨b, us, ys, rfl, g2, q1, src⟩ := seq_it rh1 ru q1
    refine ⟨_, _, vs, us, rfl, s1, g2, f _ _ _ _ _ q1 k1 rh1 fun H2 h2 k2 rh2 s2 => ?_⟩
    have s3 := SqT.keep k2 s1
    have t3 := RDs.keep k2 _ _ t1
    obtain ⟨us2, g4, t4⟩ := src H2 h2 k2 rh2 s2
    refine ⟨fun i d ed => ?_, ⟨vs, us2, s3, g4, by rw [t3.length, pairs_length]; omega, by rw [t4.length, pairs_length]; omega, by rw [t3.length, t4.length, pairs_length]; omega⟩⟩
    obtain ⟨x, y, ex, ey, rfl⟩ := pairs_get ed
    obtain ⟨vx, evx, rvx⟩ := t3.get ex
    obtain ⟨vy, evy, rvy⟩ := t4.get ey
    refine ⟨⟨vs, us2, vx, vy, s3, g4, evx, evy⟩, fun x' H' z => ?_⟩
    obtain ⟨T, x1, y1, rfl, nT, rfl, hx, hy⟩ := z
    have e3 : some vx = some x1 := evx.symm.trans (hx vs s3)
    have e4 : some vy = some y1 := evy.symm.trans (hy us2 (g4))
    cases e3; cases e4
    have n := RH.newT (vs := [vx, vy]) rh2 nT
    exact ⟨n.1, n.2, RD.newT nT ⟨_, _, rfl, rvx, _, _, rfl, rvy, rfl⟩⟩
  · exact q1.elim
end
end DL
/-! D26: zip of a list and a tuple, in a for or a comprehension. -/
namespace DL
open PySem PySem.Spec PyProof.Rows L2

/-- the list at a and the tuple at b as they stand at each turn, the items in new pairs -/
def ItzML (K : PySem.W.Frag) (a b : Addr) : It :=
  ⟨fun i H => ∃ (xs ys : List V) (x y : V), SqL K H a xs ∧ SqT K H b ys ∧ xs[i]? = some x ∧ ys[i]? = some y,
    fun i H v H' => ∃ T x y, v = .ref T ∧ H T = none ∧ H' = upd H T (.tup [x, y]) ∧ (∀ xs, SqL K H a xs → xs[i]? = some x) ∧ ∀ ys, SqT K H b ys → ys[i]? = some y,
    fun i H => ∃ xs ys : List V, SqL K H a xs ∧ SqT K H b ys ∧ i ≤ xs.length ∧ i ≤ ys.length ∧ (i = xs.length ∨ i = ys.length)⟩
theorem turn_zipML {P : Program} {w : World} {K : PySem.W.Frag} {elts : List Expr} {kk : Nat} {tpos : Pos} {a b z TI TO i1 i2 : Addr} (D : ZipSep2 z TI TO i1 i2 [i1, a] [i2, b]) (na : a ≠ i1) (nb : b ≠ i2) :
    Turn P w K (.Tuple elts kk tpos) (ItzML K a b) [z, TI, TO, i1, i2] z (fun i h => IsZip h z TI TO .none ∧ IsTupOf2 h TI (.ref i1) (.ref i2) ∧ (∃ x y, IsTupOf2 h TO x y) ∧ h.IsListIter i1 a i ∧ h.IsTupleIter i2 b i) where
  mem := by simp
  obj := fun i h st c hc => by
    obtain ⟨hz, hTI, ⟨x, y, hTO⟩, ⟨o1, e1, _, d1⟩, ⟨o2, e2, _, d2⟩⟩ := st
    have e' : c = z ∨ c = TI ∨ c = TO ∨ c = i1 ∨ c = i2 := by simpa using hc
    rcases e' with q | q | q | q | q
    · rw [q]; exact ⟨_, hz, fun v q => nomatch q⟩
    · rw [q]; exact ⟨_, hTI, fun v q => nomatch q⟩
    · rw [q]; exact ⟨_, hTO, fun v q => nomatch q⟩
    · rw [q]; exact ⟨o1, e1, fun v q => by rw [d1] at q; cases q⟩
    · rw [q]; exact ⟨o2, e2, fun v q => by rw [d2] at q; cases q⟩
  keep := fun i h h' st k => by
    obtain ⟨hz, hTI, ⟨x, y, hTO⟩, h1, h2⟩ := st
    exact ⟨k z (by simp) _ hz, k TI (by simp) _ hTI, ⟨x, y, k TO (by simp) _ hTO⟩, h1.at fun o q => k i1 (by simp) o q, h2.at fun o q => k i2 (by simp) o q⟩
  item := by
    intro X hP hw hK hc i pins s σ H E I hf st hg
    subst hP hw hK
    obtain ⟨hz, hTI, ⟨x0, y0, hTO⟩, h1, h2⟩ := st
    obtain ⟨xs, ys, x, y, hqx, hqy, hx, hy⟩ := hg
    obtain ⟨its, rv, p, _⟩ := I.list hqx
    obtain ⟨its2, rv2, p2, _⟩ := I.tuple hqy
    obtain ⟨u, hu, ru⟩ := rv.get hx
    obtain ⟨u2, hu2, ru2⟩ := rv2.get hy
    have hzl : z < s.heap.objs.size := Heap.lt_size hz
    have lt1 : i < its.toArray.size := by
      rw [List.size_toArray]; exact (List.getElem?_eq_some_iff.mp hu).1
    have lt2 : i < its2.toArray.size := by
      rw [List.size_toArray]; exact (List.getElem?_eq_some_iff.mp hu2).1
    have D1 := Draws.list (prog := X.prog) (w := X.w) (A := X.A.in1) (show X.A.in1.handled = none from I.ok.hd hc) i1 a na its.toArray
    have D2 := Draws.tuple (prog := X.prog) (w := X.w) (A := X.A.in1) (show X.A.in1.handled = none from I.ok.hd hc) i2 b nb its2.toArray
    refine wpAny_pyNext_zipD2_item D D1 D2 hz hTI hTO ⟨h1, p.isList⟩ ⟨h2, p2⟩ lt1 lt2 fun x1 x2 h' tk y1 y2 z' TO' st1 st2 hT hsz hk => ?_
    have q1 : u = x1 := by
      have q := y1
      rw [List.getElem?_toArray, hu] at q
      exact Option.some.inj q
    have q2 : u2 = x2 := by
      have q := y2
      rw [List.getElem?_toArray, hu2] at q
      exact Option.some.inj q
    subst q1; subst q2
    refine ⟨_, rfl, wpAny_letOwnedTupleGo_zip (s := { s with heap := h', toks := tk }) z' fun h'' z'' sb => ?_⟩
    have hT2 : h''.get? s.heap.objs.size = some { cls := .type "tuple", data := .seq #[u, u2] } := (sb.2 _ (Nat.ne_of_gt hzl)).trans hT
    have new : ObjOk X.prog X.w (upd H s.heap.objs.size (.tup [x, y])) h'' s.heap.objs.size (.tup [x, y]) :=
      ⟨by show 2 ≤ sizeLine; decide, [u, u2], .cons ru (.cons ru2 .nil), ⟨_, hT2, rfl, _, rfl⟩⟩
    have I1 : L2.Inv X pins σ (upd H s.heap.objs.size (.tup [x, y])) { s with heap := h'', toks := tk } :=
      I.turnedNew (t' := tk) (ch := [z, TI, TO, i1, i2]) (fun c o hb q => (sb.2 c (fun q' => hb (by simp [q']))).trans (hk c o (fun q' => hb (by simp [q'])) (fun q' => hb (by simp [q'])) (fun q' => hb (by simp [q'])) (fun q' => hb (by simp [q'])) q)) hf (Nat.le_refl _) new
    refine ⟨.ref s.heap.objs.size, _, I1, rfl, ⟨_, x, y, rfl, I.hok.fresh (Nat.le_refl _), rfl, fun l hl => by rw [I.list_inj hl hqx]; exact hx, fun l hl => by rw [I.tuple_inj hl hqy]; exact hy⟩, ⟨z'', ?_, ⟨u, u2, ?_⟩, ?_, ?_⟩, fun c hcm => ?_⟩
    · exact (sb.2 _ D.TIz).trans (hk _ _ D.TIz D.TITO D.TIi1 D.TIi2 hTI)
    · exact (sb.2 _ D.TOz).trans TO'
    · exact st1.1.at fun o q => (sb.2 _ D.zi1.symm).trans q
    · exact st2.1.at fun o q => (sb.2 _ D.zi2.symm).trans q
    · have hlt : c < s.heap.objs.size := by
        have e' : c = z ∨ c = TI ∨ c = TO ∨ c = i1 ∨ c = i2 := by simpa using hcm
        rcases e' with q | q | q | q | q
        · rw [q]; exact hzl
        · rw [q]; exact Heap.lt_size hTI
        · rw [q]; exact Heap.lt_size hTO
        · rw [q]; obtain ⟨_, e1, _⟩ := h1; exact Heap.lt_size e1
        · rw [q]; obtain ⟨_, e2, _⟩ := h2; exact Heap.lt_size e2
      rw [upd_ne (Nat.ne_of_lt hlt)]
      exact (hf c hcm).1
  done := by
    intro X hP hw hK hc i pins s σ H E I hf st hg
    subst hP hw hK
    obtain ⟨hz, hTI, ⟨x0, y0, hTO⟩, h1, h2⟩ := st
    obtain ⟨xs, ys, hqx, hqy, le1, le2, hend⟩ := hg
    obtain ⟨its, rv, p, _⟩ := I.list hqx
    obtain ⟨its2, rv2, p2, _⟩ := I.tuple hqy
    have l1 : its.toArray.size = xs.length := by rw [List.size_toArray, ← rv.length]
    have l2 : its2.toArray.size = ys.length := by rw [List.size_toArray, ← rv2.length]
    have D1 := Draws.list (prog := X.prog) (w := X.w) (A := X.A.in1) (show X.A.in1.handled = none from I.ok.hd hc) i1 a na its.toArray
    have D2 := Draws.tuple (prog := X.prog) (w := X.w) (A := X.A.in1) (show X.A.in1.handled = none from I.ok.hd hc) i2 b nb its2.toArray
    exact wpAny_pyNext_zipD2_end D D1 D2 hz hTI hTO ⟨h1, p.isList⟩ ⟨h2, p2⟩ (by omega) (by omega) (by omega) fun h' tk hk => ⟨rfl, I.turnedL (t' := tk) (ch := [z, TI, TO, i1, i2]) (fun c o hb q =>
      hk c o (fun q' => hb (by simp [q'])) (fun q' => hb (by simp [q'])) (fun q' => hb (by simp [q'])) (fun q' => hb (by simp [q'])) q) hf⟩
  self := fun A i s Q E st h => wpAny_pyIter_zip st.1 h

def iZipML (K : PySem.W.Frag) (ta : TA) : TI := fun σ H R => ta σ H fun vs H1 => ∃ a b xs ys, vs = [.ref a, .ref b] ∧ SqL K H1 a xs ∧ SqT K H1 b ys ∧ R (ItzML K a b) H1
theorem pi_zipML {X : Cx} {e e2 : Expr} {ta : TA} {p pos tpos : Pos} {elts : List Expr} {kk : Nat} (hg : Gl X "zip") (hm : X.mg "zip" = none) (ha : PA X [e, e2] ta)
    (hs : starEach [e, e2] X.env = (false, eval e X.env) :: starEach [e2] X.env := by rfl) (hpl : (backTo pos (starEach [e2] X.env)).any (·.1) = false := by rfl) :
    PI X (.Tuple elts kk tpos) (.Call (.Name "zip" p) [e, e2] [] pos) (iZipML X.K ta) := by
  refine ⟨fun pins s σ H R I h => ?_⟩
  refine Call_ (ld_blt I hg hm PyProof.Rows.boot_zip (PyProof.Rows.callWith_type1 (thn (ha.run pos pins s σ H _ I h) fun us s1 ⟨vs, H1, I1, r1, q1⟩ => ?_) hs hpl))
  obtain ⟨a, b, xs, ys, ex, hqx, hqy, q⟩ := q1
  subst ex
  obtain ⟨w1, w2, rfl, e1, e2⟩ := vals2 r1
  cases e1; cases e2
  have fresh5 : ∀ c, c ∈ [s1.heap.objs.size + 4, s1.heap.objs.size + 2, s1.heap.objs.size + 3, s1.heap.objs.size, s1.heap.objs.size + 1] → FpOk X pins H1 c := fun c hcm => by
    have hle : s1.heap.objs.size ≤ c := by
      simp only [List.mem_cons, List.not_mem_nil, or_false] at hcm
      rcases hcm with e | e | e | e | e <;> rw [e] <;> first | exact Nat.le_refl _ | exact Nat.le_add_right _ _
    exact I1.fpOk hle (I1.hok.fresh hle)
  obtain ⟨its, rv, p1, _⟩ := I1.list hqx
  obtain ⟨its2, rv2, p2, _⟩ := I1.tuple hqy
  have al : a < s1.heap.objs.size := p1.lt
  have bl : b < s1.heap.objs.size := by obtain ⟨_, e, _⟩ := (show s1.heap.IsTuple b its2.toArray from p2); exact Heap.lt_size e
  refine zip_begins2 (begins_list a its.toArray) (begins_tuple b its2.toArray) p1.isList p2 fun h' hz hTI hTO g1 g2 hsz hk => wpAny_pyIter_zip hz ?_
  have I2 : L2.Inv X pins σ H1 { s1 with heap := h' } := I1.kept (t' := s1.toks) hk
  exact ⟨s1.heap.objs.size + 4, [s1.heap.objs.size + 4, s1.heap.objs.size + 2, s1.heap.objs.size + 3, s1.heap.objs.size, s1.heap.objs.size + 1], _, _, H1, rfl, I2, turn_zipML (sep_of al bl) (Nat.ne_of_lt al) (Nat.ne_of_lt (Nat.lt_succ_of_lt bl)), ⟨hz, hTI, ⟨_, _, hTO⟩, ⟨_, g1, rfl, rfl⟩, ⟨_, g2, rfl, rfl⟩⟩, fresh5, q⟩

section
variable {X : Cx} {e : Expr} {pos : Pos}
def iZpML (ta : DTA) : DTI := fun σ h P => ta σ h fun ds h1 => match ds with
  | [d, .tup ys] => seqAt d h1 fun xs => P (pairs xs ys) (seqSt d xs) h1
  | _ => False
theorem di_zipML {e2 : Expr} {ta : DTA} {p tpos : Pos} {elts : List Expr} {kk : Nat} (hg : Gl X "zip") (hm : X.mg "zip" = none) (ha : DA X [e, e2] ta)
    (hs : starEach [e, e2] X.env = (false, eval e X.env) :: starEach [e2] X.env := by rfl) (hpl : (backTo pos (starEach [e2] X.env)).any (·.1) = false := by rfl) :
    DI X (.Tuple elts kk tpos) (.Call (.Name "zip" p) [e, e2] [] pos) (iZpML ta) := by
  refine ⟨piImp (pi_zipML hg hm ha.pa hs hpl) ?_⟩
  rintro σ H R ⟨dσ, h, P, rs, rh, q, f⟩
  refine ⟨dσ, h, _, rs, rh, q, fun ds h1 vs H1 q1 k1 rh1 r1 => ?_⟩
  split at q1
  · obtain ⟨v, u, rfl, rv, ru⟩ := r1.two
    obtain ⟨b, us, rfl, s1, t1⟩ := ru
    obtain ⟨a, vs, xs, rfl, g2, q1, src⟩ := seq_it rh1 rv q1
    refine ⟨_, _, vs, us, rfl, g2, s1, f _ _ _ _ _ q1 k1 rh1 fun H2 h2 k2 rh2 s2 => ?_⟩
    have s4 := SqT.keep k2 s1
    have t4 := RDs.keep k2 _ _ t1
    obtain ⟨vs2, g3, t3⟩ := src H2 h2 k2 rh2 s2
    refine ⟨fun i d ed => ?_, ⟨vs2, us, g3, s4, by rw [t3.length, pairs_length]; omega, by rw [t4.length, pairs_length]; omega, by rw [t3.length, t4.length, pairs_length]; omega⟩⟩
    obtain ⟨x, y, ex, ey, rfl⟩ := pairs_get ed
    obtain ⟨vx, evx, rvx⟩ := t3.get ex
    obtain ⟨vy, evy, rvy⟩ := t4.get ey
    refine ⟨⟨vs2, us, vx, vy, g3, s4, evx, evy⟩, fun x' H' z => ?_⟩
    obtain ⟨T, x1, y1, rfl, nT, rfl, hx, hy⟩ := z
    have e3 : some vx = some x1 := evx.symm.trans (hx vs2 (g3))
    have e4 : some vy = some y1 := evy.symm.trans (hy us s4)
    cases e3; cases e4
    have n := RH.newT (vs := [vx, vy]) rh2 nT
    exact ⟨n.1, n.2, RD.newT nT ⟨_, _, rfl, rvx, _, _, rfl, rvy, rfl⟩⟩
  · exact q1.elim
end
end DL
/-! D27: sorted(set(e)) with no argument left to a tactic (so that the expected type comes in first). -/
namespace DL
open PySem PySem.Spec PyProof.Rows L2
theorem de_sortSetX {X : Cx} {e : Expr} {te : DTE} {p1 p2 q1 q2 : Pos} (hc : X.calm = true) (g1 : Gl X "sorted") (m1 : X.mg "sorted" = none) (g2 : Gl X "set") (m2 : X.mg "set" = none) (he : DE X e te)
    (s1 : starEach [e] X.env = [(false, eval e X.env)]) (s2 : starEach [.Call (.Name "set" p1) [e] [] p2] X.env = [(false, eval (.Call (.Name "set" p1) [e] [] p2) X.env)]) :
    DE X (.Call (.Name "sorted" q1) [.Call (.Name "set" p1) [e] [] p2] [] q2) (dSortSet te) := de_sortSet hc g1 m1 g2 m2 he s1 s2
theorem de_ixX {X : Cx} {a b : Expr} {ta tb : DTE} {pos : Pos} (ha : DE X a ta) (hb : DE X b tb) (hs : PlainIx b) : DE X (.Subscript a b pos) (dOp dIx ta tb) := de_ix ha hb hs
theorem de_fldX {X : Cx} {o : Expr} {ta : DTE} {pos : Pos} {f : Str} (he : DE X o ta) (hb : attributeBase o f X.env (eval o X.env) = eval o X.env) : DE X (.Attribute o f pos) (dFld X.K ta f) := de_fld he hb
end DL
/-! D28: what is made is locked and known by its value; cells are opened and closed; what is evaluated leaves the heap. -/
namespace DL
open PySem PySem.Spec PyProof.Rows L2

def del (h : DH) (a : Addr) : DH := fun b => if b = a then none else h b
theorem del_ne {h : DH} {a b : Addr} (n : b ≠ a) : del h a b = h b := by unfold del; rw [if_neg n]
theorem del_put {h : DH} {a : Addr} {o : DO} (n : h a = none) : del (put h a o) a = h := by
  funext b
  unfold del put
  by_cases e : b = a
  · rw [if_pos e, e, n]
  · rw [if_neg e, if_neg e]
theorem Sub.del {h : DH} {a : Addr} : Sub (DL.del h a) h := fun b o e => by
  by_cases z : b = a
  · unfold DL.del at e; rw [if_pos z] at e; cases e
  · rw [del_ne z] at e; exact e
/-- lock it, if it stands -/
def frzK (d : D) (h : DH) (P : DK) : Prop := match d with
  | .ref a => match h a with
    | some (.lst xs) => P (.rol xs) (del h a)
    | some (.dct kvs) => P (.rod (kvs.map (·.1)) (kvs.map (·.2))) (del h a)
    | some (.ins C fs) => P (.obj C (fs.map (·.1)) (fs.map (·.2))) (del h a)
    | _ => False
  | d => P d h
theorem frz_int {i : Int} {h : DH} {P : DK} : frzK (.int i) h P = P (.int i) h := rfl
theorem frz_str {i : Str} {h : DH} {P : DK} : frzK (.str i) h P = P (.str i) h := rfl
theorem frz_bl {i : Bool} {h : DH} {P : DK} : frzK (.bl i) h P = P (.bl i) h := rfl
theorem frz_non {h : DH} {P : DK} : frzK .non h P = P .non h := rfl
theorem frz_tup {i : List D} {h : DH} {P : DK} : frzK (.tup i) h P = P (.tup i) h := rfl
theorem frz_rol {i : List D} {h : DH} {P : DK} : frzK (.rol i) h P = P (.rol i) h := rfl
theorem frz_rod {i j : List D} {h : DH} {P : DK} : frzK (.rod i j) h P = P (.rod i j) h := rfl
theorem frz_obj {C : Addr} {i : List Str} {j : List D} {h : DH} {P : DK} : frzK (.obj C i j) h P = P (.obj C i j) h := rfl
theorem ents_map {K : PySem.W.Frag} {w : World} {H : Hp} : ∀ {kvs : List (D × D)} {xs : List Ent}, REnts K w H kvs xs → ∃ us ws, EntsOf (kvs.map (·.1)) us ws xs ∧ RDs K w H (kvs.map (·.1)) us ∧ RDs K w H (kvs.map (·.2)) ws
  | [], _, .nil => ⟨[], [], ⟨rfl, rfl, rfl⟩, rfl, rfl⟩
  | p :: kvs, x :: xs, .cons r t => by
    obtain ⟨us, ws, h1, h2, h3⟩ := ents_map t
    obtain ⟨u, r1, r2⟩ := r.kv
    obtain ⟨v, r3, r4⟩ := r.vv
    exact ⟨u :: us, v :: ws, ⟨u, us, v, ws, x, xs, rfl, rfl, rfl, r.key, r.deep, r1, r3, h1⟩, ⟨u, us, rfl, r2, h2⟩, ⟨v, ws, rfl, r4, h3⟩⟩
theorem rfs_map {K : PySem.W.Frag} {w : World} {H : Hp} : ∀ {fs : List (Str × D)} {vs : List (Str × V)}, RFs K w H fs vs → RDs K w H (fs.map (·.2)) (vs.map (·.2)) ∧ fs.map (·.1) = vs.map (·.1)
  | [], _, .nil => ⟨rfl, rfl⟩
  | p :: fs, q :: vs, .cons r t => by
    obtain ⟨h1, h2⟩ := rfs_map t
    exact ⟨⟨q.2, _, rfl, r.2, h1⟩, by rw [List.map_cons, List.map_cons, h2, r.1]⟩
section
variable {X : Cx} {pins : List (Addr × Obj)} {σ : L2.St} {H : Hp} {s : Shared}
/-- the machine's side of a lock -/
theorem lock_it {d : D} {v : V} {h : DH} {P : DK} (I : L2.Inv X pins σ H s) (rh : RH X.K X.w H h) (r : RD X.K X.w H d v) (q : frzK d h P) :
    ∃ H' d' h', L2.Inv X pins σ H' s ∧ Keeps H H' ∧ RH X.K X.w H' h' ∧ RD X.K X.w H' d' v ∧ P d' h' := by
  have gone : ∀ {a : Addr} {u : HO}, Keeps H (upd H a u) → RH X.K X.w (upd H a u) (del h a) := fun {a u} kp b o eb => by
    have hb : b ≠ a := fun z => by unfold del at eb; rw [if_pos z] at eb; cases eb
    rw [del_ne hb] at eb
    exact (rh b o eb).keep kp (upd_ne hb)
  cases d with
  | ref a =>
    cases r
    unfold frzK at q
    dsimp only at q
    split at q
    · rename_i xs e
      obtain ⟨vs, g, t⟩ := rh a _ e
      obtain ⟨od, I2⟩ := I.lock g True.intro
      have kp : Keeps H (upd H a (.frz od (.lst vs))) := Keeps.over g True.intro
      exact ⟨_, .rol xs, _, I2, kp, gone kp, ⟨a, vs, rfl, .inl ⟨od, upd_same⟩, RDs.keep kp _ _ t⟩, q⟩
    · rename_i kvs e
      obtain ⟨xs, g, hS, hz, hn, re⟩ := rh a _ e
      obtain ⟨od, I2⟩ := I.lock g True.intro
      have kp : Keeps H (upd H a (.frz od (.ext (isDict X.w a xs)))) := Keeps.over g True.intro
      obtain ⟨us, ws, t1, t2, t3⟩ := ents_map (re.keep kp)
      exact ⟨_, .rod _ _, _, I2, kp, gone kp, ⟨a, od, xs, us, ws, rfl, upd_same, hS, by rw [List.length_map]; exact hz, hn, t1, t2, t3⟩, q⟩
    · rename_i C fs e
      obtain ⟨dx, vfs, g, t⟩ := rh a _ e
      obtain ⟨od, I2⟩ := I.lock g True.intro
      have kp : Keeps H (upd H a (.frz od (.ins C dx vfs))) := Keeps.over g True.intro
      obtain ⟨t1, t2⟩ := rfs_map (t.keep kp)
      refine ⟨_, .obj C _ _, _, I2, kp, gone kp, ⟨a, od, dx, vfs.map (·.2), rfl, ?_, ?_, t1⟩, q⟩
      · rw [t2, zip_maps]; exact upd_same
      · rw [t2, List.length_map, List.length_map]
    · exact q.elim
  | _ => exact ⟨H, _, h, I, Keeps.refl H, rh, r, q⟩
end
section
variable {X : Cx} {e : Expr} {t : DTE} {st : Stmt} {i : Nat}
def dFrz (t : DTE) : DTE := fun σ h P => t σ h fun d h1 => frzK d h1 P
theorem de_frz (he : DE X e t) : DE X e (dFrz t) := by
  refine ⟨⟨fun pins s σ H Q I ⟨dσ, h, P, rs, rh, q, f⟩ => ?_⟩⟩
  refine thn (he.pe.run pins s σ H (fun v H1 => ∃ d h1, RD X.K X.w H1 d v ∧ RH X.K X.w H1 h1 ∧ Keeps H H1 ∧ frzK d h1 P) I ⟨dσ, h, _, rs, rh, q, fun d h1 v H1 q1 k1 rh1 r1 => ⟨d, h1, r1, rh1, k1, q1⟩⟩) fun u s1 ⟨v, H1, I1, rv, d, h1, rd, rh1, k1, q1⟩ => ?_
  obtain ⟨H2, d2, h2, I2, k2, rh2, rd2, q2⟩ := lock_it I1 rh1 rd q1
  exact ⟨v, H2, I2, rv, f _ _ _ _ q2 (k1.trans k2) rh2 rd2⟩
/-- lock it and let the heap be as it was -/
def dPur (t : DTE) : DTE := fun σ h P => t σ h fun d h1 => frzK d h1 fun d' h2 => Sub h h2 ∧ P d' h
theorem de_pur (he : DE X e t) : DE X e (dPur t) := by
  refine ⟨⟨fun pins s σ H Q I ⟨dσ, h, P, rs, rh, q, f⟩ => ?_⟩⟩
  refine thn (he.pe.run pins s σ H (fun v H1 => ∃ d h1, RD X.K X.w H1 d v ∧ RH X.K X.w H1 h1 ∧ Keeps H H1 ∧ frzK d h1 fun d' h2 => Sub h h2 ∧ P d' h) I ⟨dσ, h, _, rs, rh, q, fun d h1 v H1 q1 k1 rh1 r1 => ⟨d, h1, r1, rh1, k1, q1⟩⟩) fun u s1 ⟨v, H1, I1, rv, d, h1, rd, rh1, k1, q1⟩ => ?_
  obtain ⟨H2, d2, h2, I2, k2, rh2, rd2, sb, q2⟩ := lock_it I1 rh1 rd q1
  exact ⟨v, H2, I2, rv, f _ _ _ _ q2 (k1.trans k2) (rh2.less sb) rd2⟩
/-- what is wanted behind a store that is locked -/
def frzNx (i : Nat) (K : DSt → DH → Prop) : DSt → DH → Prop := fun σ1 h1 => match σ1[i]? with
  | some (some d) => frzK d h1 fun d' h2 => K (σ1.set i (some d')) h2
  | _ => False
/-- what is set is locked -/
theorem ds_frz {y : Str} (hi : X.N[i]? = some y) (hs : DS X st (sAsg t (gNm i))) : DS X st (sAsg (dFrz t) (gNm i)) := by
  refine ⟨⟨fun pins s σ H Q I ⟨dσ, h, E, rs, rh, q, f⟩ => ?_⟩⟩
  have il : i < dσ.length := by rw [rs.1, I.len]; exact (List.getElem?_eq_some_iff.mp hi).1
  have same : (fun d h1 => gNm i d dσ h1 (frzNx i E.nx)) = fun d h1 => frzK d h1 fun d' h2 => gNm i d' dσ h2 E.nx := by
    funext d h1
    show frzNx i E.nx (dσ.set i (some d)) h1 = _
    unfold frzNx
    rw [List.getElem?_set_self il]
    simp only [List.set_set]
    rfl
  have q' : t dσ h fun d h1 => gNm i d dσ h1 (frzNx i E.nx) := by rw [same]; exact q
  refine thn (hs.ps.run pins s σ H ⟨fun σ1 H1 => ∃ dσ1 h1, frzNx i E.nx dσ1 h1 ∧ RH X.K X.w H1 h1 ∧ Keeps H H1 ∧ RS X.K X.w H1 dσ1 σ1, fun v H1 => ∃ d h1, E.rt d h1 ∧ Keeps H H1 ∧ RH X.K X.w H1 h1 ∧ RD X.K X.w H1 d v,
      fun σ1 H1 => ∃ dσ1 h1, E.bk dσ1 h1 ∧ RH X.K X.w H1 h1 ∧ Keeps H H1 ∧ RS X.K X.w H1 dσ1 σ1, fun σ1 H1 => ∃ dσ1 h1, E.ct dσ1 h1 ∧ RH X.K X.w H1 h1 ∧ Keeps H H1 ∧ RS X.K X.w H1 dσ1 σ1⟩ I
    ⟨dσ, h, { E with nx := frzNx i E.nx }, rs, rh, q', ⟨fun d1 h1 σ1 H1 q1 k1 rh1 rs1 => ⟨d1, h1, q1, rh1, k1, rs1⟩, fun d1 h1 σ1 H1 q1 k1 rh1 rs1 => ⟨d1, h1, q1, k1, rh1, rs1⟩, fun d1 h1 σ1 H1 q1 k1 rh1 rs1 => ⟨d1, h1, q1, rh1, k1, rs1⟩, fun d1 h1 σ1 H1 q1 k1 rh1 rs1 => ⟨d1, h1, q1, rh1, k1, rs1⟩⟩⟩) fun fl s1 q1 => ?_
  cases fl with
  | next =>
    obtain ⟨σ1, H1, I1, dσ1, h1, qn, rh1, k1, rs1⟩ := q1
    unfold frzNx at qn
    split at qn
    · rename_i d ed
      obtain ⟨v, ev, rv⟩ := rs1.2 _ _ ed
      obtain ⟨H2, d2, h2, I2, k2, rh2, rd2, q2⟩ := lock_it I1 rh1 rv qn
      refine ⟨σ1, H2, I2, f.nx _ _ _ _ q2 (k1.trans k2) rh2 ⟨by rw [List.length_set]; exact rs1.1, fun j d3 ej => ?_⟩⟩
      by_cases hj : i = j
      · subst hj
        have il1 : i < dσ1.length := (List.getElem?_eq_some_iff.mp ed).1
        rw [List.getElem?_set_self il1] at ej
        cases ej
        exact ⟨v, ev, rd2⟩
      · rw [List.getElem?_set_ne hj] at ej
        exact (rs1.keep k2).2 j d3 ej
    · exact qn.elim
  | ret v =>
    obtain ⟨x, σ1, H1, I1, r, d, h1, q1, k1, rh1, rd1⟩ := q1
    exact ⟨x, σ1, H1, I1, r, f.rt _ _ _ _ q1 k1 rh1 rd1⟩
  | brk =>
    obtain ⟨σ1, H1, I1, d, h1, q1, rh1, k1, rs1⟩ := q1
    exact ⟨σ1, H1, I1, f.bk _ _ _ _ q1 k1 rh1 rs1⟩
  | cont =>
    obtain ⟨σ1, H1, I1, d, h1, q1, rh1, k1, rs1⟩ := q1
    exact ⟨σ1, H1, I1, f.ct _ _ _ _ q1 k1 rh1 rs1⟩

/-! ### cells known by what holds of them -/
/-- the cell at a is opened -/
def opn (h : DH) (k : DH → Prop) : Prop := ∃ a, match h a with
  | some (.absl Φ) => ∀ xs, Φ xs → k (put h a (.lst xs))
  | some (.absd Φ) => ∀ kvs, Φ kvs → k (put h a (.dct kvs))
  | _ => False
theorem opn_l {h : DH} {k : DH → Prop} {a : Addr} {Φ : List D → Prop} (e : h a = some (.absl Φ)) (q : ∀ xs, Φ xs → k (put h a (.lst xs))) : opn h k := ⟨a, by rw [e]; exact q⟩
theorem opn_d {h : DH} {k : DH → Prop} {a : Addr} {Φ : List (D × D) → Prop} (e : h a = some (.absd Φ)) (q : ∀ kvs, Φ kvs → k (put h a (.dct kvs))) : opn h k := ⟨a, by rw [e]; exact q⟩
theorem RH.opened {K : PySem.W.Frag} {w : World} {H : Hp} {h : DH} {k : DH → Prop} (rh : RH K w H h) (q : opn h k) : ∃ h', RH K w H h' ∧ k h' := by
  obtain ⟨a, q⟩ := q
  have one : ∀ {o : DO}, RO K w H a o → RH K w H (put h a o) := fun {o} r b u e => by
    by_cases z : b = a
    · subst z; rw [put_same] at e; cases e; exact r
    · rw [put_ne z] at e; exact rh b u e
  split at q
  · rename_i Φ e
    obtain ⟨ds, p, r⟩ := rh a _ e
    exact ⟨_, one (o := .lst ds) r, q ds p⟩
  · rename_i Φ e
    obtain ⟨kvs, p, r⟩ := rh a _ e
    exact ⟨_, one (o := .dct kvs) r, q kvs p⟩
  · exact q.elim
def sOpn (t : DTS) : DTS := fun E σ h => opn h (t E σ)
theorem dss_opn {ss : List Stmt} {t : DTS} (hs : DSs X ss t) : DSs X ss (sOpn t) := by
  refine ⟨pssImp hs.pss ?_⟩
  rintro Q σ H ⟨dσ, h, E, rs, rh, q, f⟩
  obtain ⟨h', rh', q'⟩ := rh.opened q
  exact ⟨dσ, h', E, rs, rh', q', f⟩
/-- cells are closed ahead of it, one is opened behind it -/
def dCo (t : DTE) : DTE := fun σ h P => ∃ h0, Abs h0 h ∧ t σ h0 fun d h1 => opn h1 (P d)
theorem de_co (he : DE X e t) : DE X e (dCo t) := by
  refine ⟨peImp he.pe ?_⟩
  rintro σ H Q ⟨dσ, h, P, rs, rh, ⟨h0, ab, q⟩, f⟩
  refine ⟨dσ, h0, _, rs, rh.abs ab, q, fun d h1 v H1 q1 k1 rh1 r1 => ?_⟩
  obtain ⟨h', rh', q'⟩ := rh1.opened q1
  exact f _ _ _ _ q' k1 rh' r1
/-- behind it the heap may be told less of -/
def dLess (t : DTE) : DTE := fun σ h P => t σ h fun d h1 => ∃ h0, Abs h0 h1 ∧ P d h0
theorem de_less (he : DE X e t) : DE X e (dLess t) := by
  refine ⟨peImp he.pe ?_⟩
  rintro σ H Q ⟨dσ, h, P, rs, rh, q, f⟩
  refine ⟨dσ, h, _, rs, rh, q, fun d h1 v H1 q1 k1 rh1 r1 => ?_⟩
  obtain ⟨h0, ab, q1⟩ := q1
  exact f _ _ _ _ q1 k1 (rh1.abs ab) r1
end
end DL
/-! D29: comprehensions and loops whose bodies leave the heap. -/
namespace DL
open PySem PySem.Spec PyProof.Rows L2

theorem put_swap {h : DH} {a b : Addr} {o u : DO} (n : a ≠ b) : put (put h a o) b u = put (put h b u) a o := by
  funext c
  unfold put
  by_cases e : c = b
  · rw [if_pos e, if_neg (fun z => n (z.symm.trans e)), if_pos e]
  · rw [if_neg e]
    by_cases f : c = a
    · rw [if_pos f, if_pos f]
    · rw [if_neg f, if_neg f, if_neg e]
theorem put_over {h : DH} {a b : Addr} {o o' u : DO} (n : a ≠ b) : put (put (put h a o) b u) a o' = put (put h a o') b u := by
  funext c
  unfold put
  by_cases e : c = a
  · rw [if_pos e, if_neg (fun z => n (e.symm.trans z)), if_pos e]
  · rw [if_neg e]
    by_cases f : c = b
    · rw [if_pos f, if_pos f]
    · rw [if_neg f, if_neg f, if_neg e, if_neg e]
theorem frz_new {h : DH} {p : Addr} {xs : List D} {P : DK} (n : h p = none) : frzK (.ref p) (put h p (.lst xs)) P = P (.rol xs) h := by
  unfold frzK
  dsimp only
  rw [put_same]
  dsimp only
  rw [del_put n]
theorem frz_newD {h : DH} {p : Addr} {kvs : List (D × D)} {P : DK} (n : h p = none) : frzK (.ref p) (put h p (.dct kvs)) P = P (.rod (kvs.map (·.1)) (kvs.map (·.2))) h := by
  unfold frzK
  dsimp only
  rw [put_same]
  dsimp only
  rw [del_put n]
theorem frsh {h : DH} {xs : List D} {P : DK} (q : P (.rol xs) h) : fresh h (.lst xs) fun p h' => frzK (.ref p) h' P := fun p np => by
  show frzK (.ref p) (put h p (.lst xs)) P
  rw [frz_new np]
  exact q
theorem frshD {h : DH} {kvs : List (D × D)} {P : DK} (q : P (.rod (kvs.map (·.1)) (kvs.map (·.2))) h) : fresh h (.dct kvs) fun p h' => frzK (.ref p) h' P := fun p np => by
  show frzK (.ref p) (put h p (.dct kvs)) P
  rw [frz_newD np]
  exact q
theorem frz_at {h : DH} {p : Addr} {xs : List D} {P : DK} (e : h p = some (.lst xs)) : frzK (.ref p) h P = P (.rol xs) (del h p) := by
  unfold frzK
  dsimp only
  rw [e]
theorem frz_atD {h : DH} {p : Addr} {kvs : List (D × D)} {P : DK} (e : h p = some (.dct kvs)) : frzK (.ref p) h P = P (.rod (kvs.map (·.1)) (kvs.map (·.2))) (del h p) := by
  unfold frzK
  dsimp only
  rw [e]
theorem frz_ins {h : DH} {p C : Addr} {fs : List (Str × D)} {P : DK} (e : h p = some (.ins C fs)) : frzK (.ref p) h P = P (.obj C (fs.map (·.1)) (fs.map (·.2))) (del h p) := by
  unfold frzK
  dsimp only
  rw [e]
/-! ### comprehensions -/
section
variable {α : Type} {g : DTG} {tt : DTT} {te : DTE} {st : DH → Prop} {σ : DSt} {h : DH} {P : DK}
/-- one for, with a test -/
theorem lcF (enc : α → D) (ys : List α) (f : α → D) (p : α → Bool) {xs : List D} (hx : xs = ys.map enc) (hst : ∀ h', Sub h h' → st h')
    (hb : ∀ y ∈ ys, ∀ h', Sub h h' → ∀ (R : DK) (R' : DH → Prop), (p y = true → R (f y) h') → (p y = false → R' h') → g (enc y) σ h' fun σ2 h2 => tt σ2 h2 fun b h3 => if b = true then te σ2 h3 R else R' h3)
    (hl : ys.length ≤ sizeLine) (hP : P (.rol ((ys.filter p).map f)) h) : fresh h (.lst []) fun L h2 => lcGo g tt te st σ L xs h2 fun h3 => frzK (.ref L) h3 P := by
  subst hx
  intro L nL
  have gen : ∀ (zs : List α) (acc : List D), (∀ z ∈ zs, z ∈ ys) → acc.length + zs.length ≤ sizeLine → P (.rol (acc ++ (zs.filter p).map f)) h → lcGo g tt te st σ L (zs.map enc) (put h L (.lst acc)) fun h3 => frzK (.ref L) h3 P := by
    intro zs
    induction zs with
    | nil =>
      intro acc _ _ q
      refine ⟨hst _ (Sub.new nL), ?_⟩
      show frzK (.ref L) (put h L (.lst acc)) P
      rw [frz_new nL]
      rw [List.filter_nil, List.map_nil, List.append_nil] at q
      exact q
    | cons y zs ih =>
      intro acc hz hl q
      rw [List.length_cons] at hl
      refine ⟨hst _ (Sub.new nL), hb y (hz y List.mem_cons_self) _ (Sub.new nL) _ _ (fun hp => ?_) (fun hp => ?_)⟩
      · refine lstAt_of put_same ⟨by omega, ?_⟩
        rw [put_put]
        refine ih (acc ++ [f y]) (fun z hz' => hz z (List.mem_cons_of_mem _ hz')) (by rw [List.length_append, List.length_singleton]; omega) ?_
        rw [List.filter_cons, if_pos hp, List.map_cons] at q
        rw [List.append_assoc]
        exact q
      · refine ih acc (fun z hz' => hz z (List.mem_cons_of_mem _ hz')) (by omega) ?_
        rw [List.filter_cons, if_neg (by rw [hp]; exact Bool.false_ne_true)] at q
        exact q
  exact gen ys [] (fun _ h => h) (by rw [List.length_nil]; omega) (by rw [List.nil_append]; exact hP)
/-- one for -/
theorem lcA (enc : α → D) (ys : List α) (f : α → D) {xs : List D} (hx : xs = ys.map enc) (hst : ∀ h', Sub h h' → st h')
    (hb : ∀ y ∈ ys, ∀ h', Sub h h' → ∀ (R : DK), R (f y) h' → g (enc y) σ h' fun σ2 h2 => te σ2 h2 R)
    (hl : ys.length ≤ sizeLine) (hP : P (.rol (ys.map f)) h) : fresh h (.lst []) fun L h2 => lcGo g dYes te st σ L xs h2 fun h3 => frzK (.ref L) h3 P := by
  refine lcF enc ys f (fun _ => true) hx hst (fun y hy h' s R R' hR _ => ?_) hl ?_
  · show g (enc y) σ h' fun σ2 h2 => if true = true then te σ2 h2 R else R' h2
    simp only [if_true]
    exact hb y hy h' s R (hR rfl)
  · rw [List.filter_eq_self.mpr fun _ _ => rfl]
    exact hP
/-- one for, the items told by a relation; those that are kept in their order -/
theorem lcR (enc : α → D) (ys : List α) (Good : α → D → Prop) {xs : List D} (hx : xs = ys.map enc) (hst : ∀ h', Sub h h' → st h')
    (hb : ∀ y ∈ ys, ∀ h', Sub h h' → ∀ (R : DK) (R' : DH → Prop), (∀ d, Good y d → R d h') → R' h' → g (enc y) σ h' fun σ2 h2 => tt σ2 h2 fun b h3 => if b = true then te σ2 h3 R else R' h3)
    (hl : ys.length ≤ sizeLine) (hP : ∀ zs ds, List.Sublist zs ys → Paired Good zs ds → P (.rol ds) h) : fresh h (.lst []) fun L h2 => lcGo g tt te st σ L xs h2 fun h3 => frzK (.ref L) h3 P := by
  subst hx
  intro L nL
  have gen : ∀ (zs : List α) (acc : List D), (∀ z ∈ zs, z ∈ ys) → acc.length + zs.length ≤ sizeLine → (∀ ws ds, List.Sublist ws zs → Paired Good ws ds → P (.rol (acc ++ ds)) h) → lcGo g tt te st σ L (zs.map enc) (put h L (.lst acc)) fun h3 => frzK (.ref L) h3 P := by
    intro zs
    induction zs with
    | nil =>
      intro acc _ _ q
      refine ⟨hst _ (Sub.new nL), ?_⟩
      show frzK (.ref L) (put h L (.lst acc)) P
      rw [frz_new nL]
      have z := q [] [] (List.Sublist.refl _) .nil
      rw [List.append_nil] at z
      exact z
    | cons y zs ih =>
      intro acc hz hl q
      rw [List.length_cons] at hl
      refine ⟨hst _ (Sub.new nL), hb y (hz y List.mem_cons_self) _ (Sub.new nL) _ _ (fun d hd => ?_) ?_⟩
      · refine lstAt_of put_same ⟨by omega, ?_⟩
        rw [put_put]
        refine ih (acc ++ [d]) (fun z hz' => hz z (List.mem_cons_of_mem _ hz')) (by rw [List.length_append, List.length_singleton]; omega) fun ws ds hs hf => ?_
        rw [List.append_assoc]
        exact q (y :: ws) (d :: ds) (hs.cons₂ y) (.cons hd hf)
      · exact ih acc (fun z hz' => hz z (List.mem_cons_of_mem _ hz')) (by omega) fun ws ds hs hf => q ws ds (hs.cons y) hf
  exact gen ys [] (fun _ h => h) (by rw [List.length_nil]; omega) fun ws ds hs hf => by rw [List.nil_append]; exact hP ws ds hs hf
/-- one for, all items told by a relation -/
theorem lcRA (enc : α → D) (ys : List α) (Good : α → D → Prop) {xs : List D} (hx : xs = ys.map enc) (hst : ∀ h', Sub h h' → st h')
    (hb : ∀ y ∈ ys, ∀ h', Sub h h' → ∀ (R : DK), (∀ d, Good y d → R d h') → g (enc y) σ h' fun σ2 h2 => te σ2 h2 R)
    (hl : ys.length ≤ sizeLine) (hP : ∀ ds, Paired Good ys ds → P (.rol ds) h) : fresh h (.lst []) fun L h2 => lcGo g dYes te st σ L xs h2 fun h3 => frzK (.ref L) h3 P := by
  subst hx
  intro L nL
  have gen : ∀ (zs : List α) (acc : List D), (∀ z ∈ zs, z ∈ ys) → acc.length + zs.length ≤ sizeLine → (∀ ds, Paired Good zs ds → P (.rol (acc ++ ds)) h) → lcGo g dYes te st σ L (zs.map enc) (put h L (.lst acc)) fun h3 => frzK (.ref L) h3 P := by
    intro zs
    induction zs with
    | nil =>
      intro acc _ _ q
      refine ⟨hst _ (Sub.new nL), ?_⟩
      show frzK (.ref L) (put h L (.lst acc)) P
      rw [frz_new nL]
      have z := q [] .nil
      rw [List.append_nil] at z
      exact z
    | cons y zs ih =>
      intro acc hz hl q
      rw [List.length_cons] at hl
      refine ⟨hst _ (Sub.new nL), ?_⟩
      simp only [dYes, ite_tt]
      refine hb y (hz y List.mem_cons_self) _ (Sub.new nL) _ fun d hd => ?_
      refine lstAt_of put_same ⟨by omega, ?_⟩
      rw [put_put]
      refine ih (acc ++ [d]) (fun z hz' => hz z (List.mem_cons_of_mem _ hz')) (by rw [List.length_append, List.length_singleton]; omega) fun ds hf => ?_
      rw [List.append_assoc]
      exact q (d :: ds) (.cons hd hf)
  exact gen ys [] (fun _ h => h) (by rw [List.length_nil]; omega) fun ds hf => by rw [List.nil_append]; exact hP ds hf
/-- two fors -/
theorem lc2F {β : Type} {ti1 : DTI} {g1 : DTG} {tt1 : DTT} {vs1 : List Nat} (enc : α → D) (ys : List α) (po : α → Bool) (zs : α → List β) (enc1 : β → D) (p : α → β → Bool) (f : α → β → D) (s1 : α → DSt) {xs : List D} (hx : xs = ys.map enc) (hst : ∀ h', Sub h h' → st h')
    (hg : ∀ y ∈ ys, ∀ h' K, K (s1 y) h' → g (enc y) σ h' K)
    (ht : ∀ y ∈ ys, ∀ h', Sub h h' → ∀ (R : Bool → DH → Prop), R (po y) h' → tt (s1 y) h' R)
    (hi : ∀ y ∈ ys, po y = true → ∀ h', Sub h h' → ∀ R, (∀ st1 : DH → Prop, (∀ h'', Sub h h'' → st1 h'') → R ((zs y).map enc1) st1 h') → ti1 (s1 y) h' R)
    (hb : ∀ y ∈ ys, ∀ z ∈ zs y, ∀ h', Sub h h' → ∀ (R : DK) (R' : DH → Prop), (p y z = true → R (f y z) h') → (p y z = false → R' h') → g1 (enc1 z) (dwipe (s1 y) vs1) h' fun σ2 h2 => tt1 σ2 h2 fun b h3 => if b = true then te σ2 h3 R else R' h3)
    (hl : ((ys.filter po).flatMap zs).length ≤ sizeLine) (hP : P (.rol ((ys.filter po).flatMap fun y => ((zs y).filter (p y)).map (f y))) h) :
    fresh h (.lst []) fun L h2 => lc2Go g tt ti1 g1 tt1 te vs1 st σ L xs h2 fun h3 => frzK (.ref L) h3 P := by
  subst hx
  intro L nL
  have inner : ∀ (y : α), y ∈ ys → ∀ (N : DH → Prop) (st1 : DH → Prop), (∀ h'', Sub h h'' → st1 h'') → ∀ (us : List β) (acc : List D), (∀ z ∈ us, z ∈ zs y) → acc.length + us.length ≤ sizeLine → N (put h L (.lst (acc ++ (us.filter (p y)).map (f y)))) →
      lcGo g1 tt1 te st1 (dwipe (s1 y) vs1) L (us.map enc1) (put h L (.lst acc)) N := by
    intro y hy N st1 hs1 us
    induction us with
    | nil =>
      intro acc _ _ q
      rw [List.filter_nil, List.map_nil, List.append_nil] at q
      exact ⟨hs1 _ (Sub.new nL), q⟩
    | cons z us ih =>
      intro acc hz hl q
      rw [List.length_cons] at hl
      refine ⟨hs1 _ (Sub.new nL), hb y hy z (hz z List.mem_cons_self) _ (Sub.new nL) _ _ (fun hp => ?_) (fun hp => ?_)⟩
      · refine lstAt_of put_same ⟨by omega, ?_⟩
        rw [put_put]
        refine ih (acc ++ [f y z]) (fun z hz' => hz z (List.mem_cons_of_mem _ hz')) (by rw [List.length_append, List.length_singleton]; omega) ?_
        rw [List.filter_cons, if_pos hp, List.map_cons] at q
        rw [List.append_assoc]
        exact q
      · refine ih acc (fun z hz' => hz z (List.mem_cons_of_mem _ hz')) (by omega) ?_
        rw [List.filter_cons, if_neg (by rw [hp]; exact Bool.false_ne_true)] at q
        exact q
  have gen : ∀ (us : List α) (acc : List D), (∀ z ∈ us, z ∈ ys) → acc.length + ((us.filter po).flatMap zs).length ≤ sizeLine → P (.rol (acc ++ (us.filter po).flatMap fun y => ((zs y).filter (p y)).map (f y))) h → lc2Go g tt ti1 g1 tt1 te vs1 st σ L (us.map enc) (put h L (.lst acc)) fun h3 => frzK (.ref L) h3 P := by
    intro us
    induction us with
    | nil =>
      intro acc _ _ q
      refine ⟨hst _ (Sub.new nL), ?_⟩
      show frzK (.ref L) (put h L (.lst acc)) P
      rw [frz_new nL]
      rw [List.filter_nil, List.flatMap_nil, List.append_nil] at q
      exact q
    | cons y us ih =>
      intro acc hz hl q
      have hy := hz y List.mem_cons_self
      refine ⟨hst _ (Sub.new nL), hg y hy _ _ (ht y hy _ (Sub.new nL) _ ?_)⟩
      cases hp : po y with
      | true =>
        rw [if_pos rfl]
        rw [List.filter_cons, if_pos hp, List.flatMap_cons] at hl q
        rw [List.length_append] at hl
        refine hi y hy hp _ (Sub.new nL) _ fun st1 hs1 => ?_
        refine inner y hy _ st1 hs1 (zs y) acc (fun _ h => h) (by omega) ?_
        refine ih _ (fun z hz' => hz z (List.mem_cons_of_mem _ hz')) ?_ (by rw [List.append_assoc]; exact q)
        rw [List.length_append, List.length_map]
        have := List.length_filter_le (p y) (zs y)
        omega
      | false =>
        rw [if_neg Bool.false_ne_true]
        rw [List.filter_cons, if_neg (by rw [hp]; exact Bool.false_ne_true)] at hl q
        exact ih acc (fun z hz' => hz z (List.mem_cons_of_mem _ hz')) hl q
  exact gen ys [] (fun _ h => h) (by rw [List.length_nil]; omega) (by rw [List.nil_append]; exact hP)
/-- two fors without tests -/
theorem lc2A {β : Type} {ti1 : DTI} {g1 : DTG} {vs1 : List Nat} (enc : α → D) (ys : List α) (zs : α → List β) (enc1 : β → D) (f : α → β → D) (s1 : α → DSt) {xs : List D} (hx : xs = ys.map enc) (hst : ∀ h', Sub h h' → st h')
    (hg : ∀ y ∈ ys, ∀ h' K, K (s1 y) h' → g (enc y) σ h' K)
    (hi : ∀ y ∈ ys, ∀ h', Sub h h' → ∀ R, (∀ st1 : DH → Prop, (∀ h'', Sub h h'' → st1 h'') → R ((zs y).map enc1) st1 h') → ti1 (s1 y) h' R)
    (hb : ∀ y ∈ ys, ∀ z ∈ zs y, ∀ h', Sub h h' → ∀ (R : DK), R (f y z) h' → g1 (enc1 z) (dwipe (s1 y) vs1) h' fun σ2 h2 => te σ2 h2 R)
    (hl : (ys.flatMap zs).length ≤ sizeLine) (hP : P (.rol (ys.flatMap fun y => (zs y).map (f y))) h) :
    fresh h (.lst []) fun L h2 => lc2Go g dYes ti1 g1 dYes te vs1 st σ L xs h2 fun h3 => frzK (.ref L) h3 P := by
  have ef : ys.filter (fun _ => true) = ys := List.filter_eq_self.mpr fun _ _ => rfl
  refine lc2F enc ys (fun _ => true) zs enc1 (fun _ _ => true) f s1 hx hst hg (fun y hy h' s R hR => hR) (fun y hy _ => hi y hy) (fun y hy z hz h' s R R' hR _ => ?_) (by rw [ef]; exact hl) ?_
  · show g1 (enc1 z) (dwipe (s1 y) vs1) h' fun σ2 h2 => if true = true then te σ2 h2 R else R' h2
    simp only [if_true]
    exact hb y hy z hz h' s R (hR rfl)
  · rw [ef]
    have e : (fun y => ((zs y).filter fun _ => true).map (f y)) = fun y => (zs y).map (f y) := funext fun y => by rw [List.filter_eq_self.mpr fun _ _ => rfl]
    rw [e]
    exact hP
/-! ### any number of fors -/
/-- what is run within a turn puts these behind the new list's -/
def Gives (w : Addr → DWi) (σ : DSt) (h : DH) (zs : List D) : Prop := ∀ (L : Addr) (acc : List D) (N : DH → Prop), h L = none → acc.length + zs.length ≤ sizeLine → N (put h L (.lst (acc ++ zs))) → w L σ (put h L (.lst acc)) N
theorem gives_item (d : D) (hb : ∀ h', Sub h h' → ∀ (R : DK), R d h' → te σ h' R) : Gives (wItem te) σ h [d] := fun L acc N nL hl q => by
  refine hb _ (Sub.new nL) _ (lstAt_of put_same ⟨by rw [List.length_singleton] at hl; omega, ?_⟩)
  rw [put_put]
  exact q
theorem gives_cl {ti : DTI} {vs : List Nat} {w : Addr → DWi} (enc : α → D) (ys : List α) (p : α → Bool) (zs : α → List D) (s1 : α → DSt)
    (hi : ∀ h', Sub h h' → ∀ R, (∀ st1 : DH → Prop, (∀ h'', Sub h h'' → st1 h'') → R (ys.map enc) st1 h') → ti σ h' R)
    (hg : ∀ y ∈ ys, ∀ h' K, K (s1 y) h' → g (enc y) (dwipe σ vs) h' K)
    (ht : ∀ y ∈ ys, ∀ h', Sub h h' → ∀ (R : Bool → DH → Prop), R (p y) h' → tt (s1 y) h' R)
    (hw : ∀ y ∈ ys, p y = true → Gives w (s1 y) h (zs y)) : Gives (wCl ti g tt vs w) σ h ((ys.filter p).flatMap zs) := fun L acc N nL hl q => by
  refine hi _ (Sub.new nL) _ fun st1 hs1 => ?_
  have gen : ∀ (us : List α) (acc : List D), (∀ z ∈ us, z ∈ ys) → acc.length + ((us.filter p).flatMap zs).length ≤ sizeLine → N (put h L (.lst (acc ++ (us.filter p).flatMap zs))) → wGo g tt (w L) st1 (dwipe σ vs) (us.map enc) (put h L (.lst acc)) N := by
    intro us
    induction us with
    | nil =>
      intro acc _ _ q
      rw [List.filter_nil, List.flatMap_nil, List.append_nil] at q
      exact ⟨hs1 _ (Sub.new nL), q⟩
    | cons y us ih =>
      intro acc hz hl q
      have hy := hz y List.mem_cons_self
      refine ⟨hs1 _ (Sub.new nL), hg y hy _ _ (ht y hy _ (Sub.new nL) _ ?_)⟩
      cases hp : p y with
      | true =>
        rw [if_pos rfl]
        rw [List.filter_cons, if_pos hp, List.flatMap_cons] at hl q
        rw [List.length_append] at hl
        refine hw y hy hp L acc _ nL (by omega) ?_
        exact ih _ (fun z hz' => hz z (List.mem_cons_of_mem _ hz')) (by rw [List.length_append]; omega) (by rw [List.append_assoc]; exact q)
      | false =>
        rw [if_neg Bool.false_ne_true]
        rw [List.filter_cons, if_neg (by rw [hp]; exact Bool.false_ne_true)] at hl q
        exact ih acc (fun z hz' => hz z (List.mem_cons_of_mem _ hz')) hl q
  exact gen ys acc (fun _ h => h) hl q
theorem gives_clA {ti : DTI} {vs : List Nat} {w : Addr → DWi} (enc : α → D) (ys : List α) (zs : α → List D) (s1 : α → DSt)
    (hi : ∀ h', Sub h h' → ∀ R, (∀ st1 : DH → Prop, (∀ h'', Sub h h'' → st1 h'') → R (ys.map enc) st1 h') → ti σ h' R)
    (hg : ∀ y ∈ ys, ∀ h' K, K (s1 y) h' → g (enc y) (dwipe σ vs) h' K)
    (hw : ∀ y ∈ ys, Gives w (s1 y) h (zs y)) : Gives (wCl ti g dYes vs w) σ h (ys.flatMap zs) := by
  have e := gives_cl (tt := dYes) (w := w) (vs := vs) enc ys (fun _ => true) zs s1 hi hg (fun y hy h' s R hR => hR) (fun y hy _ => hw y hy)
  rw [List.filter_eq_self.mpr fun _ _ => rfl] at e
  exact e
theorem lcNF {w : Addr → DWi} {σ' : DSt} (enc : α → D) (ys : List α) (zs : α → List D) (s1 : α → DSt) {xs : List D} (hx : xs = ys.map enc) (hst : ∀ h', Sub h h' → st h')
    (hg : ∀ y ∈ ys, ∀ h' K, K (s1 y) h' → g (enc y) σ' h' K) (hw : ∀ y ∈ ys, Gives w (s1 y) h (zs y)) (hl : (ys.flatMap zs).length ≤ sizeLine) (hP : P (.rol (ys.flatMap zs)) h) :
    fresh h (.lst []) fun L h2 => wGo g dYes (w L) st σ' xs h2 fun h3 => frzK (.ref L) h3 P := by
  subst hx
  intro L nL
  have gen : ∀ (us : List α) (acc : List D), (∀ z ∈ us, z ∈ ys) → acc.length + (us.flatMap zs).length ≤ sizeLine → P (.rol (acc ++ us.flatMap zs)) h → wGo g dYes (w L) st σ' (us.map enc) (put h L (.lst acc)) fun h3 => frzK (.ref L) h3 P := by
    intro us
    induction us with
    | nil =>
      intro acc _ _ q
      refine ⟨hst _ (Sub.new nL), ?_⟩
      show frzK (.ref L) (put h L (.lst acc)) P
      rw [frz_new nL]
      rw [List.flatMap_nil, List.append_nil] at q
      exact q
    | cons y us ih =>
      intro acc hz hl q
      have hy := hz y List.mem_cons_self
      rw [List.flatMap_cons, List.length_append] at hl
      rw [List.flatMap_cons] at q
      refine ⟨hst _ (Sub.new nL), hg y hy _ _ ?_⟩
      simp only [dYes, ite_tt]
      refine hw y hy L acc _ nL (by omega) ?_
      exact ih _ (fun z hz' => hz z (List.mem_cons_of_mem _ hz')) (by rw [List.length_append]; omega) (by rw [List.append_assoc]; exact q)
  exact gen ys [] (fun _ h => h) (by rw [List.length_nil]; omega) (by rw [List.nil_append]; exact hP)
end

/-! ### loops -/
section
variable {α : Type} {g : DTG} {tb : DTS} {st : DH → Prop} {E : DEnds} {σ : DSt} {h : DH}
/-- for, by what holds behind the items so far -/
theorem for_pre (enc : α → D) (ys : List α) {xs : List D} (hx : xs = ys.map enc) (J : List α → DSt → DH → Prop) (h0 : J [] σ h) (hst : ∀ pre σ h, J pre σ h → st h)
    (step : ∀ pre y post σ h, ys = pre ++ y :: post → J pre σ h → ∀ nx : DSt → DH → Prop, (∀ σ h, J (pre ++ [y]) σ h → nx σ h) → g (enc y) σ h fun σ1 h1 => tb { nx := nx, rt := E.rt, bk := E.nx, ct := nx } σ1 h1)
    (hend : ∀ σ h, J ys σ h → E.nx σ h) : forGo g tb st E xs σ h := by
  subst hx
  have gen : ∀ (post pre : List α) (σ : DSt) (h : DH), ys = pre ++ post → J pre σ h → forGo g tb st E (post.map enc) σ h := by
    intro post
    induction post with
    | nil =>
      intro pre σ h e hj
      rw [List.append_nil] at e
      subst e
      exact ⟨hst _ _ _ hj, hend _ _ hj⟩
    | cons y post ih =>
      intro pre σ h e hj
      exact ⟨hst _ _ _ hj, step pre y post σ h e hj _ fun σ2 h2 j2 => ih (pre ++ [y]) σ2 h2 (by rw [e, List.append_assoc]; rfl) j2⟩
  exact gen ys [] σ h rfl h0
/-- while, by what holds at each turn and a number that goes down -/
theorem wh_inv {c : DTT} (J : Nat → DSt → DH → Prop) {n : Nat} (h0 : J n σ h)
    (step : ∀ n σ h, J n σ h → ∀ nx : DSt → DH → Prop, (∀ m σ h, m < n → J m σ h → nx σ h) → c σ h fun b h1 => if b = true then tb { nx := nx, rt := E.rt, bk := E.nx, ct := nx } σ h1 else E.nx σ h1) : sWhile c tb E σ h := by
  refine ⟨n + 1, ?_⟩
  have gen : ∀ n m σ h, m ≤ n → J m σ h → whGo c tb E (n + 1) σ h := by
    intro n
    induction n with
    | zero =>
      intro m σ h hm hj
      have e : m = 0 := by omega
      subst e
      exact step 0 σ h hj _ fun m _ _ hm _ => absurd hm (Nat.not_lt_zero _)
    | succ n ih =>
      intro m σ h hm hj
      exact step m σ h hj _ fun k σ2 h2 hk j2 => ih k σ2 h2 (by omega) j2
  exact gen n n σ h (Nat.le_refl _) h0
end
end DL
/-! D30: members and equality of any kind, attributes by the fragment, dict comprehensions. -/
namespace DL
open PySem PySem.Spec PyProof.Rows L2

section
variable {X : Cx}
noncomputable def dInA : DR2 := fun x y h P => match y with
  | .tup ys => memD x ys fun b => P (.bl b) h
  | y => dIn x y h P
noncomputable def dNotInA : DR2 := fun x y h P => match y with
  | .tup ys => memD x ys fun b => P (.bl (!b)) h
  | y => dNotIn x y h P
theorem op_dInA (hu : X.A.units + 64 < cLine) : DOp X (compareOp .In) dInA := by
  intro pins s σ H x y v u Q I rx ry q
  obtain ⟨dx, dy, h, P, r1, r2, rh, q, f⟩ := q
  unfold dInA at q
  cases dy with
  | tup ys => exact op_dMem pins s σ H x y v u Q I rx ry ⟨dx, .tup ys, h, P, r1, r2, rh, q, f⟩
  | _ => exact op_dIn hu pins s σ H x y v u Q I rx ry ⟨dx, _, h, P, r1, r2, rh, q, f⟩
theorem op_dNotInA (hu : X.A.units + 64 < cLine) : DOp X (compareOp .NotIn) dNotInA := by
  intro pins s σ H x y v u Q I rx ry q
  obtain ⟨dx, dy, h, P, r1, r2, rh, q, f⟩ := q
  unfold dNotInA at q
  cases dy with
  | tup ys => exact op_dNotMem pins s σ H x y v u Q I rx ry ⟨dx, .tup ys, h, P, r1, r2, rh, q, f⟩
  | _ => exact op_dNotIn hu pins s σ H x y v u Q I rx ry ⟨dx, _, h, P, r1, r2, rh, q, f⟩
/-- == of plain values and of tuples -/
noncomputable def dEqA : DR2 := fun x y h P => match eqS x y with
  | some b => P (.bl b) h
  | none => (Cmp x ∧ Cmp y) ∧ P (.bl (decide (x = y))) h
noncomputable def dNeA : DR2 := fun x y h P => match eqS x y with
  | some b => P (.bl (!b)) h
  | none => (Cmp x ∧ Cmp y) ∧ P (.bl (!decide (x = y))) h
theorem op_dEqA (hu : X.A.units + 64 < cLine) : DOp X (compareOp .Eq) dEqA := by
  intro pins s σ H x y v u Q I rx ry q
  obtain ⟨dx, dy, h, P, r1, r2, rh, q, f⟩ := q
  unfold dEqA at q
  split at q
  · rename_i b e
    refine op_dEq pins s σ H x y v u Q I rx ry ⟨dx, dy, h, P, r1, r2, rh, ?_, f⟩
    unfold dEq
    rw [e]
    exact q
  · exact op_dEqT hu pins s σ H x y v u Q I rx ry ⟨dx, dy, h, P, r1, r2, rh, q, f⟩
theorem op_dNeA (hu : X.A.units + 64 < cLine) : DOp X (compareOp .NotEq) dNeA := by
  intro pins s σ H x y v u Q I rx ry q
  obtain ⟨dx, dy, h, P, r1, r2, rh, q, f⟩ := q
  unfold dNeA at q
  split at q
  · rename_i b e
    refine op_dNe pins s σ H x y v u Q I rx ry ⟨dx, dy, h, P, r1, r2, rh, ?_, f⟩
    unfold dNe
    rw [e]
    exact q
  · exact op_dNeT hu pins s σ H x y v u Q I rx ry ⟨dx, dy, h, P, r1, r2, rh, q, f⟩
theorem de_fldK {K : PySem.W.Frag} {o : Expr} {ta : DTE} {pos : Pos} {f : Str} (hK : X.K = K) (he : DE X o ta) (hb : attributeBase o f X.env (eval o X.env) = eval o X.env := by rfl) : DE X (.Attribute o f pos) (dFld K ta f) := by
  subst hK
  exact de_fld he hb
end

theorem allB_f {α : Type} (f : α → Bool) : ∀ ys : List α, allB (ys.map fun y => .bl (f y)) = some (ys.map f)
  | [] => rfl
  | y :: r => by rw [List.map_cons, allB, allB_f f r]; rfl
theorem allI_f {α : Type} (f : α → Int) : ∀ ys : List α, allI (ys.map fun y => .int (f y)) = some (ys.map f)
  | [] => rfl
  | y :: r => by rw [List.map_cons, allI, allI_f f r]; rfl
theorem allS_f {α : Type} (f : α → Str) : ∀ ys : List α, allS (ys.map fun y => .str (f y)) = some (ys.map f)
  | [] => rfl
  | y :: r => by rw [List.map_cons, allS, allS_f f r]; rfl
theorem all_true {α : Type} : ∀ ys : List α, (ys.map fun _ => true).all id = true
  | [] => rfl
  | y :: r => by rw [List.map_cons, List.all_cons, all_true r]; rfl
theorem all_of {α : Type} {f : α → Bool} {ys : List α} (h : ∀ y ∈ ys, f y = true) : (ys.map f).all id = true := by
  rw [List.all_map]
  exact List.all_eq_true.mpr h
theorem abs_put {h : DH} {k : Addr} {Φ : List (D × D) → Prop} {kvs : List (D × D)} (e : h k = some (.absd Φ)) (q : Φ kvs) : Abs h (put h k (.dct kvs)) := fun a o ea => by
  by_cases z : a = k
  · subst z
    rw [e] at ea
    cases ea
    exact .inr ⟨_, put_same, q⟩
  · rw [put_ne z]; exact .inl ea
theorem abs_putL {h : DH} {k : Addr} {Φ : List D → Prop} {xs : List D} (e : h k = some (.absl Φ)) (q : Φ xs) : Abs h (put h k (.lst xs)) := fun a o ea => by
  by_cases z : a = k
  · subst z
    rw [e] at ea
    cases ea
    exact .inr ⟨_, put_same, q⟩
  · rw [put_ne z]; exact .inl ea
theorem put_back {h : DH} {k : Addr} {o u : DO} (e : h k = some o) : put (put h k u) k o = h := by
  rw [put_put]
  funext a
  by_cases z : a = k
  · rw [z, put_same, e]
  · rw [put_ne z]
/-- a dict to be read, with these entries -/
def DctIs (h : DH) (d : D) (kvs : List (D × D)) : Prop := (∃ a, d = .ref a ∧ (h a = some (.dct kvs) ∨ h a = some (.ldc kvs))) ∨ d = .rod (kvs.map (·.1)) (kvs.map (·.2))
theorem DctIs.sub {h h' : DH} {d : D} {kvs : List (D × D)} (z : DctIs h d kvs) (s : Sub h h') : DctIs h' d kvs := by
  rcases z with ⟨a, e, q⟩ | e
  · exact .inl ⟨a, e, q.imp (s _ _) (s _ _)⟩
  · exact .inr e
theorem dctV_of {h : DH} {d : D} {kvs : List (D × D)} {k : List (D × D) → Prop} (z : DctIs h d kvs) (q : k kvs) : dctV d h k := by
  rcases z with ⟨a, rfl, e | e⟩ | rfl
  · exact rdct_of e q
  · exact rdct_ofL e q
  · unfold dctV
    dsimp only
    rw [zip_maps]
    exact q
theorem in_dct {h : DH} {x d : D} {kvs : List (D × D)} {P : DK} (z : DctIs h d kvs) (kx : isKey x) (q : P (.bl (dlook kvs x).isSome) h) : dInA x d h P := by
  have t : dctV d h fun kvs => isKey x ∧ P (.bl (dlook kvs x).isSome) h := dctV_of z ⟨kx, q⟩
  rcases z with ⟨a, rfl, _⟩ | rfl
  · exact t
  · exact t
theorem notIn_dct {h : DH} {x d : D} {kvs : List (D × D)} {P : DK} (z : DctIs h d kvs) (kx : isKey x) (q : P (.bl (!(dlook kvs x).isSome)) h) : dNotInA x d h P := by
  have t : dctV d h fun kvs => isKey x ∧ P (.bl (!(dlook kvs x).isSome)) h := dctV_of z ⟨kx, q⟩
  rcases z with ⟨a, rfl, _⟩ | rfl
  · exact t
  · exact t
theorem sz0 : ((0 : Nat) ≤ sizeLine) = True := eq_true (Nat.zero_le _)
theorem sz1 : (0 + 1 ≤ sizeLine) = True := eq_true (by decide +kernel)
theorem sz2 : (0 + 1 + 1 ≤ sizeLine) = True := eq_true (by decide +kernel)
theorem sz3 : (0 + 1 + 1 + 1 ≤ sizeLine) = True := eq_true (by decide +kernel)
theorem sz4 : (0 + 1 + 1 + 1 + 1 ≤ sizeLine) = True := eq_true (by decide +kernel)
/-! ### dict comprehensions -/
section
variable {α : Type} {g : DTG} {tt : DTT} {tk tv : DTE} {st : DH → Prop} {σ : DSt} {h : DH}
theorem dcF (enc : α → D) (ys : List α) (p : α → Bool) (kf vf : α → D) {K : Addr → DH → Prop} {xs : List D} (hx : xs = ys.map enc) (hst : ∀ h', Sub h h' → st h')
    (hb : ∀ y ∈ ys, ∀ h', Sub h h' → ∀ (R : D → D → DH → Prop) (R' : DH → Prop), (p y = true → R (kf y) (vf y) h') → (p y = false → R' h') → g (enc y) σ h' fun σ2 h2 => tt σ2 h2 fun b h3 => if b = true then tk σ2 h3 fun y h4 => tv σ2 h4 fun z h5 => R y z h5 else R' h3)
    (hk : ∀ y ∈ ys, p y = true → isKey (kf y)) (hl : ys.length ≤ sizeLine) (hP : ∀ L, h L = none → K L (put h L (.dct (putAll [] ((ys.filter p).map fun y => (kf y, vf y)))))) :
    fresh h (.dct []) fun L h2 => dcGo g tt tk tv st σ L xs h2 (K L) := by
  subst hx
  intro L nL
  have gen : ∀ (zs : List α) (acc : List (D × D)), (∀ z ∈ zs, z ∈ ys) → acc.length + zs.length ≤ sizeLine → K L (put h L (.dct (putAll acc ((zs.filter p).map fun y => (kf y, vf y))))) → dcGo g tt tk tv st σ L (zs.map enc) (put h L (.dct acc)) (K L) := by
    intro zs
    induction zs with
    | nil =>
      intro acc _ _ q
      exact ⟨hst _ (Sub.new nL), q⟩
    | cons y zs ih =>
      intro acc hz hl q
      rw [List.length_cons] at hl
      have hy := hz y List.mem_cons_self
      refine ⟨hst _ (Sub.new nL), hb y hy _ (Sub.new nL) (fun y z h5 => dctAt h5 L fun kvs => (isKey y ∧ kvs.length < sizeLine) ∧ dcGo g tt tk tv st σ L (zs.map enc) (put h5 L (.dct (dput kvs y z))) (K L)) _ (fun hp => ?_) (fun hp => ?_)⟩
      · refine dctAt_of put_same ⟨⟨hk y hy hp, by omega⟩, ?_⟩
        rw [put_put]
        have := dput_length acc (kf y) (vf y)
        refine ih _ (fun z hz' => hz z (List.mem_cons_of_mem _ hz')) (by omega) ?_
        rw [List.filter_cons, if_pos hp, List.map_cons] at q
        exact q
      · refine ih acc (fun z hz' => hz z (List.mem_cons_of_mem _ hz')) (by omega) ?_
        rw [List.filter_cons, if_neg (by rw [hp]; exact Bool.false_ne_true)] at q
        exact q
  exact gen ys [] (fun _ h => h) (by rw [List.length_nil]; omega) (hP L nL)
theorem dcA (enc : α → D) (ys : List α) (kf vf : α → D) {K : Addr → DH → Prop} {xs : List D} (hx : xs = ys.map enc) (hst : ∀ h', Sub h h' → st h')
    (hb : ∀ y ∈ ys, ∀ h', Sub h h' → ∀ (R : D → D → DH → Prop), R (kf y) (vf y) h' → g (enc y) σ h' fun σ2 h2 => tk σ2 h2 fun y h4 => tv σ2 h4 fun z h5 => R y z h5)
    (hk : ∀ y ∈ ys, isKey (kf y)) (hl : ys.length ≤ sizeLine) (hP : ∀ L, h L = none → K L (put h L (.dct (putAll [] (ys.map fun y => (kf y, vf y)))))) :
    fresh h (.dct []) fun L h2 => dcGo g dYes tk tv st σ L xs h2 (K L) := by
  refine dcF enc ys (fun _ => true) kf vf hx hst (fun y hy h' s R R' hR _ => ?_) (fun y hy _ => hk y hy) hl (fun L nL => ?_)
  · simp only [dYes, ite_tt]
    exact hb y hy h' s R (hR rfl)
  · rw [List.filter_eq_self.mpr fun _ _ => rfl]
    exact hP L nL
end
/-- distinct keys: the entries as they come -/
theorem putAll_nodup : ∀ (ps acc : List (D × D)), ((acc ++ ps).map (·.1)).Nodup → putAll acc ps = acc ++ ps
  | [], acc, _ => by rw [List.append_nil]; rfl
  | p :: ps, acc, hn => by
    have nk : p.1 ∉ acc.map (·.1) := fun z => by
      rw [List.map_append, List.map_cons, List.nodup_append] at hn
      exact hn.2.2 _ z _ List.mem_cons_self rfl
    show putAll (dput acc p.1 p.2) ps = _
    rw [dput_new (dlook_none nk), putAll_nodup ps (acc ++ [(p.1, p.2)]) (by rw [List.append_assoc]; exact hn), List.append_assoc]
    rfl
theorem dput_some (kvs : List (D × D)) (k v j : D) : (dlook (dput kvs k v) j).isSome = true ↔ (dlook kvs j).isSome = true ∨ j = k := by
  rw [dlook_dput]
  by_cases e : j = k
  · rw [if_pos e]; exact ⟨fun _ => .inr e, fun _ => rfl⟩
  · rw [if_neg e]; exact ⟨.inl, fun h => h.resolve_right e⟩
theorem putAll_some : ∀ (ps kvs : List (D × D)) (j : D), (dlook (putAll kvs ps) j).isSome = true ↔ (dlook kvs j).isSome = true ∨ j ∈ ps.map (·.1)
  | [], kvs, j => by
    show (dlook kvs j).isSome = true ↔ _
    simp
  | p :: ps, kvs, j => by
    show (dlook (putAll (dput kvs p.1 p.2) ps) j).isSome = true ↔ _
    rw [putAll_some ps, dput_some, List.map_cons, List.mem_cons, or_assoc]
theorem dput_keys (kvs : List (D × D)) (k v : D) : (dput kvs k v).map (·.1) = if (dlook kvs k).isSome = true then kvs.map (·.1) else kvs.map (·.1) ++ [k] := by
  unfold dput
  split
  · rw [List.map_map]
    refine List.map_congr_left fun p _ => ?_
    show (if p.1 = k then (p.1, v) else p).1 = p.1
    split <;> rfl
  · rw [List.map_append]; rfl
theorem dlook_mem {kvs : List (D × D)} {k : D} : (dlook kvs k).isSome = true ↔ k ∈ kvs.map (·.1) := by
  induction kvs with
  | nil => simp [dlook]
  | cons p r ih =>
    rw [dlook_cons, List.map_cons, List.mem_cons]
    by_cases e : p.1 = k
    · rw [if_pos e]; exact ⟨fun _ => .inl e.symm, fun _ => rfl⟩
    · rw [if_neg e, ih]; exact ⟨.inr, fun h => h.resolve_left fun z => e z.symm⟩
theorem dput_nd {kvs : List (D × D)} {k v : D} (h : (kvs.map (·.1)).Nodup) : ((dput kvs k v).map (·.1)).Nodup := by
  rw [dput_keys]
  split
  · exact h
  · rename_i n
    rw [List.nodup_append]
    refine ⟨h, by simp, fun a ha b hb e => ?_⟩
    rw [List.mem_singleton.mp hb] at e
    subst e
    exact n (dlook_mem.mpr ha)
theorem putAll_nd : ∀ (ps : List (D × D)) {kvs : List (D × D)}, (kvs.map (·.1)).Nodup → ((putAll kvs ps).map (·.1)).Nodup
  | [], _, h => h
  | p :: ps, kvs, h => putAll_nd ps (dput_nd h)
theorem putAll_mem {ps kvs : List (D × D)} {j : D} : j ∈ (putAll kvs ps).map (·.1) ↔ j ∈ kvs.map (·.1) ∨ j ∈ ps.map (·.1) := by
  rw [← dlook_mem, putAll_some, dlook_mem]
theorem room65 {k : Nat} {A : Around} (hr : Room k A) : A.units + 65 < cLine := by
  have := hr.un
  omega
section
variable {X : Cx}
abbrev dIAdd : DR2 := dI2 CTrue fun i j => .int (i + j)
abbrev dISub : DR2 := dI2 CTrue fun i j => .int (i - j)
theorem op_iAdd : DOp X (inplaceOp .Add) dIAdd := op_dI0 iop_add
theorem op_iSub : DOp X (inplaceOp .Sub) dISub := op_dI0 iop_sub
end
/-- behind a block the heap may be told less of -/
def sLess (t : DTS) : DTS := fun E σ h => t { E with nx := fun σ' h' => ∃ h0, Abs h0 h' ∧ E.nx σ' h0, ct := fun σ' h' => ∃ h0, Abs h0 h' ∧ E.ct σ' h0 } σ h
theorem dss_less {X : Cx} {ss : List Stmt} {t : DTS} (hs : DSs X ss t) : DSs X ss (sLess t) := by
  refine ⟨pssImp hs.pss ?_⟩
  rintro Q σ H ⟨dσ, h, E, rs, rh, q, f⟩
  refine ⟨dσ, h, _, rs, rh, q, ⟨fun dσ' h' σ' H' q' k' rh' rs' => ?_, f.rt, f.bk, fun dσ' h' σ' H' q' k' rh' rs' => ?_⟩⟩
  · obtain ⟨h0, ab, q'⟩ := q'
    exact f.nx _ _ _ _ q' k' (rh'.abs ab) rs'
  · obtain ⟨h0, ab, q'⟩ := q'
    exact f.ct _ _ _ _ q' k' (rh'.abs ab) rs'
end DL
/-! M1: the plain mathematics of questions: columns, their numbers, readings, answers. -/
namespace My
open PySem PySem.Spec PyProof.Rows L2 DL

/-- the signs: 45 is the one of no letter -/
def sg (l : Nat) : List Nat := [45, 97, 98].take (l + 1)
/-- all columns of so many rows, ascending -/
def cols : Nat → List Nat → List (List Nat)
  | 0, _ => [[]]
  | r + 1, S => (cols r S).flatMap fun c => S.map fun s => c ++ [s]
def sgD (c : Nat) : D := .str ⟨#[c]⟩
def encC (c : List Nat) : D := .tup (c.map sgD)
theorem sgD_inj {a b : Nat} (h : sgD a = sgD b) : a = b := by
  unfold sgD at h
  injection h with h
  injection h with h
  simpa using h
theorem encC_inj {a b : List Nat} (h : encC a = encC b) : a = b := by
  unfold encC at h
  injection h with h
  induction a generalizing b with
  | nil => cases b with
    | nil => rfl
    | cons _ _ => simp at h
  | cons x r ih => cases b with
    | nil => simp at h
    | cons y q =>
      rw [List.map_cons, List.map_cons] at h
      injection h with h1 h2
      rw [sgD_inj h1, ih h2]
theorem flatMap_len {S : List Nat} : ∀ L : List (List Nat), (L.flatMap fun c => S.map fun s => c ++ [s]).length = L.length * S.length
  | [] => by simp
  | c :: L => by rw [List.flatMap_cons, List.length_append, List.length_map, flatMap_len L, List.length_cons, Nat.succ_mul, Nat.add_comm]
theorem cols_len (S : List Nat) : ∀ r, (cols r S).length = S.length ^ r
  | 0 => rfl
  | r + 1 => by show (List.flatMap _ (cols r S)).length = _; rw [flatMap_len, cols_len S r, Nat.pow_succ]
theorem cols_mem {S : List Nat} : ∀ {r : Nat} {c : List Nat}, c ∈ cols r S ↔ c.length = r ∧ ∀ s ∈ c, s ∈ S
  | 0, c => by
    show c ∈ [[]] ↔ _
    constructor
    · intro h
      rw [List.mem_singleton.mp h]
      exact ⟨rfl, fun s hs => by cases hs⟩
    · rintro ⟨h, _⟩
      rw [List.length_eq_zero_iff.mp h]
      exact List.mem_singleton.mpr rfl
  | r + 1, c => by
    show c ∈ List.flatMap _ (cols r S) ↔ _
    rw [List.mem_flatMap]
    constructor
    · rintro ⟨d, hd, hc⟩
      obtain ⟨s, hs, rfl⟩ := List.mem_map.mp hc
      obtain ⟨h1, h2⟩ := cols_mem.mp hd
      refine ⟨by rw [List.length_append, h1]; rfl, fun x hx => ?_⟩
      rcases List.mem_append.mp hx with hx | hx
      · exact h2 x hx
      · rw [List.mem_singleton.mp hx]; exact hs
    · rintro ⟨h1, h2⟩
      have hne : c ≠ [] := fun e => by rw [e] at h1; cases h1
      refine ⟨c.dropLast, cols_mem.mpr ⟨by rw [List.length_dropLast, h1]; rfl, fun s hs => h2 s (List.dropLast_subset c hs)⟩, List.mem_map.mpr ⟨c.getLast hne, h2 _ (List.getLast_mem hne), List.dropLast_concat_getLast hne⟩⟩
/-- the place of a sign among the three -/
def dig (s : Nat) : Nat := if s = 97 then 1 else if s = 98 then 2 else 0
/-- a column's number -/
def val (b : Nat) (c : List Nat) : Nat := c.foldl (fun n s => n * b + dig s) 0
theorem val_snoc (b : Nat) (c : List Nat) (s : Nat) : val b (c ++ [s]) = val b c * b + dig s := by unfold val; rw [List.foldl_append]; rfl
theorem flatMap_at {S : List Nat} : ∀ (L : List (List Nat)) (i j : Nat) (c : List Nat) (s : Nat), L[i]? = some c → S[j]? = some s → (L.flatMap fun c => S.map fun s => c ++ [s])[i * S.length + j]? = some (c ++ [s])
  | [], i, j, c, s, h, _ => by simp at h
  | x :: L, 0, j, c, s, h, h2 => by
    simp at h; subst h
    have hj : j < S.length := (List.getElem?_eq_some_iff.mp h2).1
    rw [List.flatMap_cons, List.getElem?_append_left (by simpa using hj)]
    simp [h2]
  | x :: L, i + 1, j, c, s, h, h2 => by
    rw [List.flatMap_cons, List.getElem?_append_right (by rw [List.length_map, Nat.succ_mul]; omega), List.length_map]
    rw [show (i + 1) * S.length + j - S.length = i * S.length + j by rw [Nat.succ_mul]; omega]
    exact flatMap_at L i j c s (by simpa using h) h2
theorem sg_len {l : Nat} (h : l ≤ 2) : (sg l).length = l + 1 := by unfold sg; rw [List.length_take]; simp; omega
theorem sg_at {l s : Nat} (h : l ≤ 2) (hs : s ∈ sg l) : (sg l)[dig s]? = some s ∧ dig s < l + 1 := by
  rcases (show l = 0 ∨ l = 1 ∨ l = 2 by omega) with rfl | rfl | rfl <;> simp [sg] at hs
  · subst hs; decide
  · rcases hs with rfl | rfl <;> decide
  · rcases hs with rfl | rfl | rfl <;> decide
theorem cols_at {l : Nat} (h : l ≤ 2) : ∀ {r : Nat} {c : List Nat}, c ∈ cols r (sg l) → (cols r (sg l))[val (l + 1) c]? = some c
  | 0, c, hc => by
    have e : c = [] := List.mem_singleton.mp hc
    subst e; rfl
  | r + 1, c, hc => by
    obtain ⟨d, hd, hc⟩ := List.mem_flatMap.mp (show c ∈ List.flatMap _ (cols r (sg l)) from hc)
    obtain ⟨s, hs, rfl⟩ := List.mem_map.mp hc
    have h1 := cols_at h hd
    have h2 := (sg_at h hs).1
    have h3 := flatMap_at (S := sg l) (cols r (sg l)) _ _ d s h1 h2
    rw [sg_len h] at h3
    rw [val_snoc]
    exact h3
theorem sg_dig {l b s : Nat} (h : (sg l)[b]? = some s) : dig s = b := by
  unfold sg at h
  rw [List.getElem?_take] at h
  split at h
  · match b, h with
    | 0, h => simp at h; subst h; rfl
    | 1, h => simp at h; subst h; rfl
    | 2, h => simp at h; subst h; rfl
    | n + 3, h => simp at h
  · cases h
/-- where a column stands is its number -/
theorem cols_val {l : Nat} (h : l ≤ 2) : ∀ {r i : Nat} {c : List Nat}, (cols r (sg l))[i]? = some c → i = val (l + 1) c
  | 0, i, c, hc => by
    have hi : i < 1 := (List.getElem?_eq_some_iff.mp hc).1
    have e : i = 0 := by omega
    subst e
    have e2 : [] = c := Option.some.inj hc
    subst e2; rfl
  | r + 1, i, c, hc => by
    have hc' : (List.flatMap (fun c => (sg l).map fun s => c ++ [s]) (cols r (sg l)))[i]? = some c := hc
    have hi : i < (cols r (sg l)).length * (sg l).length := by
      have := (List.getElem?_eq_some_iff.mp hc').1
      rw [flatMap_len] at this
      exact this
    have hS : (sg l).length = l + 1 := sg_len h
    have hp : 0 < (sg l).length := by omega
    have ha : i / (sg l).length < (cols r (sg l)).length := Nat.div_lt_of_lt_mul (by rw [Nat.mul_comm]; exact hi)
    have hb : i % (sg l).length < (sg l).length := Nat.mod_lt _ hp
    have h3 := flatMap_at (S := sg l) (cols r (sg l)) _ _ _ _ (List.getElem?_eq_getElem ha) (List.getElem?_eq_getElem hb)
    rw [Nat.mul_comm, Nat.div_add_mod] at h3
    rw [h3] at hc'
    have e := Option.some.inj hc'
    have h4 := cols_val h (List.getElem?_eq_getElem ha)
    have h5 := sg_dig (List.getElem?_eq_getElem hb)
    rw [← e, val_snoc, ← h4, h5, hS]
    have := Nat.div_add_mod i (l + 1)
    rw [Nat.mul_comm] at this
    omega
theorem val_lt {l r : Nat} (h : l ≤ 2) {c : List Nat} (hc : c ∈ cols r (sg l)) : val (l + 1) c < (l + 1) ^ r := by
  have := (List.getElem?_eq_some_iff.mp (cols_at h hc)).1
  rw [cols_len, sg_len h] at this
  exact this

/-! ### a question's data -/
structure Qs where
  r : Nat
  l : Nat
  tbl : List (Bool × List Nat)
structure Qs.Ok (S : Qs) : Prop where
  r2 : 2 ≤ S.r
  r4 : S.r ≤ 4
  l1 : 1 ≤ S.l
  l2 : S.l ≤ 2
  t1 : 1 ≤ S.tbl.length
  t8 : S.tbl.length ≤ 8
  row : ∀ e ∈ S.tbl, e.2.length = (S.l + 1) ^ S.r - 1 ∧ ∀ n ∈ e.2, n < S.tbl.length
abbrev nD (n : Nat) : D := .int (n : Int)
def rowD (e : Bool × List Nat) : D := .tup [.bl e.1, .tup (e.2.map nD)]
def tblD (t : List (Bool × List Nat)) : D := .tup (t.map rowD)
def specD (S : Qs) : D := .tup [nD S.r, nD S.l, tblD S.tbl]
def wordsD (ws : List Str) : D := .tup (ws.map .str)
/-- the standing to which a column leads -/
def lead (S : Qs) (st : Nat) (c : List Nat) : Nat := if val (S.l + 1) c = 0 then st else ((S.tbl.getD st (false, [])).2).getD (val (S.l + 1) c - 1) 0
theorem lead_lt {S : Qs} (ok : S.Ok) {st : Nat} (h : st < S.tbl.length) {c : List Nat} (hc : c ∈ cols S.r (sg S.l)) : lead S st c < S.tbl.length := by
  unfold lead
  split
  · exact h
  · rename_i hv
    have h1 := val_lt ok.l2 hc
    obtain ⟨e1, e2⟩ := ok.row S.tbl[st] (List.getElem_mem h)
    have hg : S.tbl.getD st (false, []) = S.tbl[st] := by rw [List.getD_eq_getElem?_getD, List.getElem?_eq_getElem h]; rfl
    rw [hg]
    have h2 : val (S.l + 1) c - 1 < S.tbl[st].2.length := by omega
    rw [List.getD_eq_getElem?_getD, List.getElem?_eq_getElem h2]
    exact e2 _ (List.getElem_mem h2)
/-- the column at a place -/
def colAt (ws : List Str) (p : Nat) : List Nat := ws.map fun z => z.cps.toList.getD p 45
/-- words of these letters -/
def WordsOk (l : Nat) (ws : List Str) : Prop := ∀ z ∈ ws, ∀ c ∈ z.cps.toList, c ∈ (sg l).drop 1
theorem colAt_mem {l : Nat} {ws : List Str} (h : WordsOk l ws) (p : Nat) : colAt ws p ∈ cols ws.length (sg l) := by
  refine cols_mem.mpr ⟨by unfold colAt; rw [List.length_map], fun s hs => ?_⟩
  obtain ⟨z, hz, rfl⟩ := List.mem_map.mp hs
  rw [List.getD_eq_getElem?_getD]
  cases e : z.cps.toList[p]? with
  | none => exact List.mem_of_mem_head? rfl
  | some c => exact List.mem_of_mem_drop (h z hz c (List.mem_of_getElem? e))
def maxLen (ws : List Str) : Nat := (ws.map fun z => z.length).foldl max 0
/-- the standing behind so many places -/
def stAt (S : Qs) (ws : List Str) : Nat → Nat
  | 0 => 0
  | n + 1 => lead S (stAt S ws n) (colAt ws n)
theorem stAt_lt {S : Qs} (ok : S.Ok) {ws : List Str} (hw : ws.length = S.r) (hk : WordsOk S.l ws) : ∀ n, stAt S ws n < S.tbl.length
  | 0 => ok.t1
  | n + 1 => lead_lt ok (stAt_lt ok hw hk n) (by rw [← hw]; exact colAt_mem hk n)
def ansOf (S : Qs) (ws : List Str) : Bool := (S.tbl.getD (stAt S ws (maxLen ws)) (false, [])).1
end My
/-! M2: the plain data of a question and of its splits. -/
namespace My
open PySem PySem.Spec PyProof.Rows L2 DL

def lotD (lot : List Nat) : D := .tup (lot.map nD)
def colsD (r l : Nat) : D := .rol ((cols r (sg l)).map encC)
/-- the fields of a question -/
def qFs (S : Qs) (k : Addr) : List (Str × D) := [("rows", nD S.r), ("letters", nD S.l), ("table", tblD S.tbl), ("kept", .ref k)]
/-- a question by value -/
def qV (C : Nat → Addr) (S : Qs) (k : Addr) : D := .obj (C 0) ((qFs S k).map (·.1)) ((qFs S k).map (·.2))
/-- the numbers of the readings -/
def numTbl (r l : Nat) : List (D × D) := ((cols r (sg l)).tail).zipIdx.map fun p => (encC p.1, nD p.2)
def numD (S : Qs) : D := .rod ((numTbl S.r S.l).map (·.1)) ((numTbl S.r S.l).map (·.2))
/-! ### the split -/
def othersOf (r : Nat) (lot : List Nat) : List Nat := (List.range r).filter fun x => decide (x ∉ lot)
/-- which rows are over, as a number -/
def goneN (c : List Nat) : Nat := ((c.zipIdx.filter fun p => decide (p.1 = 45)).map fun p => 2 ^ p.2).sum
/-- the places of the columns that can stand behind each number of ended rows -/
def opensOf (gs : List Nat) : List (List Nat) := (List.range (gs.headD 0 + 1)).map fun e => (List.range gs.length).filter fun i => decide (e &&& gs.getD i 0 = e)
/-- the sign of a row where the lot has c, the others d -/
def sgnAt (r : Nat) (lot c d : List Nat) (row : Nat) : Nat := if row ∈ lot then c.getD (lot.idxOf row) 45 else d.getD ((othersOf r lot).idxOf row) 45
def placeC (r : Nat) (lot c d : List Nat) : List Nat := (List.range r).map (sgnAt r lot c d)
section
variable (S : Qs) (lot : List Nat)
def lotC : List (List Nat) := cols lot.length (sg S.l)
def othC : List (List Nat) := cols (othersOf S.r lot).length (sg S.l)
def lotG : List Nat := (lotC S lot).map goneN
def othG : List Nat := (othC S lot).map goneN
def leadL (st : Nat) : List (List Nat) := (lotC S lot).map fun c => (othC S lot).map fun d => lead S st (placeC S.r lot c d)
def flagL : List Bool := S.tbl.map (·.1)
/-- the standing to which the columns of these numbers lead -/
def ld (st i j : Nat) : Nat := ((leadL S lot st).getD i []).getD j 0
def flg (st : Nat) : Bool := (S.tbl.getD st (false, [])).1
def opn2 (e : Nat) : List Nat := (opensOf (othG S lot)).getD e []
def gn2 (i : Nat) : Nat := (othG S lot).getD i 0
/-- triples whose answers can become unlike, the lot being over -/
inductive Unl : Nat → Nat → Nat → Prop
  | here {a b e : Nat} : flg S a ≠ flg S b → Unl a b e
  | step {a b e j : Nat} : j ∈ opn2 S lot e → Unl (ld S lot a 0 j) (ld S lot b 0 j) (gn2 S lot j) → Unl a b e
/-- pairs of standings whose answers can become unlike, whatever the lot has -/
inductive Prt : Nat → Nat → Prop
  | here {a b : Nat} : flg S a ≠ flg S b → Prt a b
  | step {a b i j c : Nat} : i < (lotC S lot).length → j < (lotC S lot).length → c < (othC S lot).length → Prt (ld S lot a i c) (ld S lot b j c) → Prt a b
end
def pairD (t : Nat × Nat) : D := .tup [nD t.1, nD t.2]
def natsD (xs : List Nat) : D := .rol (xs.map nD)
def natssD (xs : List (List Nat)) : D := .rol (xs.map natsD)
def triD (t : Nat × Nat × Nat) : D := .tup [nD t.1, nD t.2.1, nD t.2.2]
def splitFs (C : Nat → Addr) (S : Qs) (k : Addr) (lot : List Nat) (u p : D) : List (Str × D) :=
  [("question", qV C S k), ("lot", lotD lot), ("others", lotD (othersOf S.r lot)), ("lot_columns", colsD lot.length S.l), ("other_columns", colsD (othersOf S.r lot).length S.l),
    ("lot_gone", natsD (lotG S lot)), ("other_gone", natsD (othG S lot)), ("lot_open", natssD (opensOf (lotG S lot))), ("other_open", natssD (opensOf (othG S lot))),
    ("lead", .rol ((List.range S.tbl.length).map fun st => natssD (leadL S lot st))), ("flags", .rol ((flagL S).map .bl)), ("unlike", u), ("partable", p)]
/-- a dict whose keys are just the triples that can become unlike -/
def UnlikeOk (S : Qs) (lot : List Nat) (u : D) : Prop := ∃ kvs : List (D × D), u = .rod (kvs.map (·.1)) (kvs.map (·.2)) ∧
  ∀ a b e, a < S.tbl.length → b < S.tbl.length → e ≤ (othG S lot).headD 0 → ((dlook kvs (triD (a, b, e))).isSome = true ↔ Unl S lot a b e)
def PartOk (S : Qs) (lot : List Nat) (p : D) : Prop := ∃ kvs : List (D × D), p = .rod (kvs.map (·.1)) (kvs.map (·.2)) ∧ ∀ a b, a < S.tbl.length → b < S.tbl.length → ((dlook kvs (pairD (a, b))).isSome = true ↔ Prt S lot a b)
def splitV (C : Nat → Addr) (S : Qs) (k : Addr) (lot : List Nat) (u p : D) : D := .obj (C 1) ((splitFs C S k lot u p).map (·.1)) ((splitFs C S k lot u p).map (·.2))
def IsSplit (C : Nat → Addr) (S : Qs) (k : Addr) (lot : List Nat) (v : D) : Prop := ∃ u p, UnlikeOk S lot u ∧ PartOk S lot p ∧ v = splitV C S k lot u p
/-- an ascending list of rows, one or more, not all -/
structure LotOk (r : Nat) (lot : List Nat) : Prop where
  lt : ∀ x ∈ lot, x < r
  asc : lot.Pairwise (· < ·)
  ne : 1 ≤ lot.length
  all : lot.length < r
/-! ### what is kept -/
/-- all ascending lists of numbers below one -/
def allLots : Nat → List (List Nat)
  | 0 => [[]]
  | n + 1 => allLots n ++ (allLots n).map fun l => l ++ [n]
theorem allLots_mem : ∀ {n : Nat} {lot : List Nat}, (∀ x ∈ lot, x < n) → lot.Pairwise (· < ·) → lot ∈ allLots n
  | 0, lot, h, _ => by
    cases lot with
    | nil => exact List.mem_singleton.mpr rfl
    | cons x r => exact absurd (h x List.mem_cons_self) (Nat.not_lt_zero _)
  | n + 1, lot, h, hp => by
    rw [allLots, List.mem_append]
    by_cases hn : n ∈ lot
    · right
      obtain ⟨a, b, rfl⟩ := List.append_of_mem hn
      rw [List.pairwise_append] at hp
      have hb : b = [] := by
        cases b with
        | nil => rfl
        | cons y r =>
          have h1 := (List.pairwise_cons.mp hp.2.1).1 y List.mem_cons_self
          have h2 := h y (List.mem_append_right _ (List.mem_cons_of_mem _ List.mem_cons_self))
          omega
      subst hb
      refine List.mem_map.mpr ⟨a, allLots_mem (fun x hx => hp.2.2 x hx n List.mem_cons_self) hp.1, rfl⟩
    · left
      refine allLots_mem (fun x hx => ?_) hp
      have h1 := h x hx
      have h2 : x ≠ n := fun e => hn (e ▸ hx)
      omega
def splitKey (lot : List Nat) : D := .tup [.str "split", lotD lot]
/-- nodup lists in others are not longer -/
theorem nodup_le {α : Type} : ∀ {xs ys : List α}, xs.Nodup → (∀ x ∈ xs, x ∈ ys) → xs.length ≤ ys.length
  | [], _, _, _ => Nat.zero_le _
  | x :: xs, ys, hn, hs => by
    obtain ⟨a, b, rfl⟩ := List.append_of_mem (hs x List.mem_cons_self)
    have h1 := List.nodup_cons.mp hn
    have h2 : xs.length ≤ (a ++ b).length := nodup_le h1.2 fun y hy => by
      have h3 := hs y (List.mem_cons_of_mem _ hy)
      rw [List.mem_append] at h3 ⊢
      rcases h3 with h3 | h3
      · exact .inl h3
      · rcases List.mem_cons.mp h3 with h4 | h4
        · exact absurd (h4 ▸ hy) h1.1
        · exact .inr h4
    rw [List.length_append] at h2
    rw [List.length_append, List.length_cons, List.length_cons]
    omega
end My
/-! M3: plain facts of the data of questions and splits. -/
namespace My
open PySem PySem.Spec PyProof.Rows L2 DL

theorem line81 : 81 ≤ sizeLine := by rw [sizeLine_eq]; decide
theorem line9000 : 9000 ≤ sizeLine := by rw [sizeLine_eq]; decide
theorem line1000 : 1000 ≤ sizeLine := by rw [sizeLine_eq]; decide
theorem nat_at {xs : List Nat} {i : Nat} (h : i < xs.length) : atI (xs.map nD) (i : Int) = some (nD xs[i]) := by
  rw [atI_n, List.getElem?_map, List.getElem?_eq_getElem h]
  rfl
theorem cols_small {l r : Nat} (hl : l ≤ 2) (hr : r ≤ 4) : (cols r (sg l)).length ≤ 81 := by
  rw [cols_len, sg_len hl]
  exact Nat.le_trans (Nat.pow_le_pow_left (show l + 1 ≤ 3 by omega) r) (Nat.pow_le_pow_right (by decide) hr)
theorem bd {a b : Prop} [Decidable a] [Decidable b] (h1 : a) (h2 : b) : (decide a && decide b) = true := by rw [decide_eq_true h1, decide_eq_true h2]; rfl
theorem lk_rows (S : Qs) (k : Addr) : (qFs S k).lookup ("rows" : Str) = some (nD S.r) := lkS (by decide +kernel)
theorem lk_letters (S : Qs) (k : Addr) : (qFs S k).lookup ("letters" : Str) = some (nD S.l) := by
  unfold qFs
  rw [lkN (by decide +kernel)]
  exact lkS (by decide +kernel)
theorem lk_table (S : Qs) (k : Addr) : (qFs S k).lookup ("table" : Str) = some (tblD S.tbl) := by
  unfold qFs
  rw [lkN (by decide +kernel), lkN (by decide +kernel)]
  exact lkS (by decide +kernel)
theorem lk_kept (S : Qs) (k : Addr) : (qFs S k).lookup ("kept" : Str) = some (D.ref k) := by
  unfold qFs
  rw [lkN (by decide +kernel), lkN (by decide +kernel), lkN (by decide +kernel)]
  exact lkS (by decide +kernel)
theorem qV_at {C : Nat → Addr} {S : Qs} {k : Addr} {h : DH} : SelfAt h (qV C S k) (C 0) (qFs S k) := .inr rfl
theorem numbered_nats (gs : List Nat) : DL.numbered (gs.map nD) = (List.range gs.length).map fun (i : Nat) => .tup [.int (i : Int), nD (gs.getD i 0)] := by
  refine List.ext_getElem? fun i => ?_
  unfold DL.numbered
  rw [List.getElem?_zipWith, List.getElem?_map, List.getElem?_map, List.length_map]
  by_cases hi : i < gs.length
  · have hg : gs.getD i 0 = gs[i] := by rw [List.getD_eq_getElem?_getD, List.getElem?_eq_getElem hi]; rfl
    rw [List.getElem?_range hi, List.getElem?_eq_getElem hi]
    simp only [Option.map_some, hg]
  · rw [List.getElem?_eq_none (by rw [List.length_range]; omega)]
    rfl
theorem band_nat (a b : Nat) : Builtin.bitAnd (a : Int) (b : Int) = ((a &&& b : Nat) : Int) := by
  unfold Builtin.bitAnd
  rw [decide_eq_true (Int.natCast_nonneg a), decide_eq_true (Int.natCast_nonneg b)]
  rfl
theorem nD_dec (a b : Nat) : decide ((a : Int) = (b : Int)) = decide (a = b) := by rw [decide_eq_decide]; omega
/-- what a split has from the first on -/
structure SF1 (C : Nat → Addr) (S : Qs) (k : Addr) (lot : List Nat) (fs : List (Str × D)) : Prop where
  question : fs.lookup ("question" : Str) = some (qV C S k)
  lotf : fs.lookup ("lot" : Str) = some (lotD lot)
  others : fs.lookup ("others" : Str) = some (lotD (othersOf S.r lot))
  lcs : fs.lookup ("lot_columns" : Str) = some (colsD lot.length S.l)
  ocs : fs.lookup ("other_columns" : Str) = some (colsD (othersOf S.r lot).length S.l)
theorem filter_two {α : Type} (p : α → Bool) : ∀ xs : List α, (xs.filter p).length + (xs.filter fun x => !p x).length = xs.length
  | [] => rfl
  | x :: r => by
    have := filter_two p r
    rw [List.filter_cons, List.filter_cons, List.length_cons]
    cases p x <;> simp <;> omega
theorem others_len {r : Nat} {lot : List Nat} (h : LotOk r lot) : lot.length + (othersOf r lot).length = r := by
  have h1 : ((List.range r).filter fun x => decide (x ∈ lot)).length + (othersOf r lot).length = r := by
    unfold othersOf
    have := filter_two (fun x => decide (x ∈ lot)) (List.range r)
    rw [List.length_range] at this
    rw [show (fun x => decide (x ∉ lot)) = fun x => !decide (x ∈ lot) from funext fun x => by simp]
    exact this
  have nd : lot.Nodup := h.asc.imp fun h => Nat.ne_of_lt h
  have h2 : lot.length ≤ ((List.range r).filter fun x => decide (x ∈ lot)).length := nodup_le nd fun x hx => List.mem_filter.mpr ⟨List.mem_range.mpr (h.lt x hx), decide_eq_true hx⟩
  have h3 : ((List.range r).filter fun x => decide (x ∈ lot)).length ≤ lot.length := nodup_le (List.nodup_range.filter _) fun x hx => of_decide_eq_true (List.mem_filter.mp hx).2
  omega
theorem others_nd (r : Nat) (lot : List Nat) : (othersOf r lot).Nodup := List.nodup_range.filter _
/-- the pairs of rows and their signs, looked up -/
theorem pairs_nats (xs cs : List Nat) : pairs (xs.map nD) (cs.map sgD) = (xs.zip cs).map fun p => pairT (nD p.1, sgD p.2) := by
  unfold pairs
  rw [List.zipWith_map, List.map_zip_eq_zipWith]
  rfl
theorem nD_inj {x y : Nat} (e : nD x = nD y) : x = y := by
  injection e with e
  exact Int.ofNat.inj e
theorem nD_dinj (x y : Nat) : decide (nD x = nD y) = decide (x = y) := by
  rw [decide_eq_decide]
  exact ⟨nD_inj, fun e => by rw [e]⟩
theorem key_nat (x : Nat) : isKey (nD x) := ⟨.num x, rfl, Nat.zero_le _⟩
theorem zip_look {xs cs : List Nat} {x : Nat} (hl : xs.length = cs.length) (hx : x ∈ xs) : dlook ((xs.zip cs).map fun p => (nD p.1, sgD p.2)) (nD x) = some (sgD (cs.getD (xs.idxOf x) 45)) := by
  induction xs generalizing cs with
  | nil => cases hx
  | cons a r ih =>
    cases cs with
    | nil => cases hl
    | cons c q =>
      rw [List.zip_cons_cons, List.map_cons, dlook_cons]
      by_cases e : a = x
      · subst e
        rw [if_pos rfl, List.idxOf_cons_self]
        rfl
      · rw [if_neg (fun z => e (nD_inj z))]
        have hx' : x ∈ r := by
          rcases List.mem_cons.mp hx with h | h
          · exact absurd h.symm e
          · exact h
        rw [ih (by simpa using hl) hx', List.idxOf_cons, show (a == x) = false from beq_false_of_ne e]
        rfl
theorem zip_none {xs cs : List Nat} {x : Nat} (hx : x ∉ xs) : dlook ((xs.zip cs).map fun p => (nD p.1, sgD p.2)) (nD x) = none := by
  refine dlook_none fun z => ?_
  rw [List.map_map] at z
  obtain ⟨p, hp, e⟩ := List.mem_map.mp z
  have e2 : p.1 = x := nD_inj e
  exact hx (e2 ▸ (List.of_mem_zip hp).1)
theorem signs_look {r : Nat} {lot c d : List Nat} (hl : lot.length = c.length) (hd : (othersOf r lot).length = d.length) {x : Nat} (hx : x < r) :
    dlook ((lot.zip c).map (fun p => (nD p.1, sgD p.2)) ++ ((othersOf r lot).zip d).map fun p => (nD p.1, sgD p.2)) (nD x) = some (sgD (sgnAt r lot c d x)) := by
  rw [dlook_append]
  unfold sgnAt
  by_cases h : x ∈ lot
  · rw [if_pos h, zip_look hl h]; rfl
  · rw [if_neg h, zip_none h, zip_look hd (List.mem_filter.mpr ⟨List.mem_range.mpr hx, decide_eq_true h⟩)]; rfl
theorem zip_sub {α β : Type} : ∀ (xs : List α) (cs : List β), List.Sublist ((xs.zip cs).map (·.1)) xs
  | [], _ => List.Sublist.refl _
  | x :: r, [] => List.nil_sublist _
  | x :: r, c :: q => by rw [List.zip_cons_cons, List.map_cons]; exact (zip_sub r q).cons₂ x
theorem signs_nodup {r : Nat} {lot c d : List Nat} (nd : lot.Nodup) : (((lot.zip c).map (fun p => (nD p.1, sgD p.2)) ++ ((othersOf r lot).zip d).map fun p => (nD p.1, sgD p.2)).map (·.1)).Nodup := by
  have inj : ∀ {xs : List Nat}, xs.Nodup → (xs.map nD).Nodup := fun {xs} h => List.pairwise_map.mpr (h.imp fun h e => h (nD_inj e))
  have sub : ∀ (xs cs : List Nat), ((xs.zip cs).map fun p => (nD p.1, sgD p.2)).map (·.1) = ((xs.zip cs).map (·.1)).map nD := fun xs cs => by rw [List.map_map, List.map_map]; rfl
  have fst : ∀ (xs cs : List Nat), xs.Nodup → ((xs.zip cs).map (·.1)).Nodup := fun xs cs h => by
    exact h.sublist (zip_sub xs cs)
  rw [List.map_append, sub, sub, List.nodup_append]
  refine ⟨inj (fst _ _ nd), inj (fst _ _ (others_nd r lot)), fun a ha b hb e => ?_⟩
  obtain ⟨x, hx, rfl⟩ := List.mem_map.mp ha
  obtain ⟨y, hy, rfl⟩ := List.mem_map.mp hb
  have exy := nD_inj e
  subst exy
  obtain ⟨p, hp, rfl⟩ := List.mem_map.mp hx
  obtain ⟨p2, hp2, e2⟩ := List.mem_map.mp hy
  have h1 := (List.of_mem_zip hp).1
  have h2 := (List.of_mem_zip hp2).1
  rw [e2] at h2
  exact (of_decide_eq_true (List.mem_filter.mp h2).2) h1
theorem sgnAt_mem {r l : Nat} {lot c d : List Nat} (hl : l ≤ 2) (hc : ∀ s ∈ c, s ∈ sg l) (hd : ∀ s ∈ d, s ∈ sg l) (x : Nat) : sgnAt r lot c d x ∈ sg l := by
  have h45 : 45 ∈ sg l := by
    unfold sg
    cases l with
    | zero => exact List.mem_cons_self
    | succ n => exact List.mem_cons_self
  have get : ∀ (ys : List Nat) (i : Nat), (∀ s ∈ ys, s ∈ sg l) → ys.getD i 45 ∈ sg l := fun ys i h => by
    rw [List.getD_eq_getElem?_getD]
    cases e : ys[i]? with
    | none => exact h45
    | some s => exact h s (List.mem_of_getElem? e)
  unfold sgnAt
  split
  · exact get c _ hc
  · exact get d _ hd
theorem place_mem {r l : Nat} {lot c d : List Nat} (hl : l ≤ 2) {n m : Nat} (hc : c ∈ cols n (sg l)) (hd : d ∈ cols m (sg l)) : placeC r lot c d ∈ cols r (sg l) := by
  refine cols_mem.mpr ⟨by unfold placeC; rw [List.length_map, List.length_range], fun s hs => ?_⟩
  obtain ⟨x, _, rfl⟩ := List.mem_map.mp hs
  exact sgnAt_mem hl (cols_mem.mp hc).2 (cols_mem.mp hd).2 x
/-- and from the tables on -/
structure SF3 (C : Nat → Addr) (S : Qs) (k : Addr) (lot : List Nat) (fs : List (Str × D)) : Prop extends SF1 C S k lot fs where
  lgone : fs.lookup ("lot_gone" : Str) = some (natsD (lotG S lot))
  ogone : fs.lookup ("other_gone" : Str) = some (natsD (othG S lot))
  lopen : fs.lookup ("lot_open" : Str) = some (natssD (opensOf (lotG S lot)))
  oopen : fs.lookup ("other_open" : Str) = some (natssD (opensOf (othG S lot)))
  leadf : fs.lookup ("lead" : Str) = some (.rol ((List.range S.tbl.length).map fun st => natssD (leadL S lot st)))
  flags : fs.lookup ("flags" : Str) = some (.rol ((flagL S).map .bl))
theorem map_at {α : Type} (f : α → D) {xs : List α} {i : Nat} {x : α} (h : xs[i]? = some x) : atI (xs.map f) (i : Int) = some (f x) := by
  rw [atI_n, List.getElem?_map, h]
  rfl
theorem getD_some {α : Type} {xs : List α} {i : Nat} (d : α) (h : i < xs.length) : xs[i]? = some (xs.getD i d) := by
  rw [List.getD_eq_getElem?_getD, List.getElem?_eq_getElem h]
  rfl
/-- a triple of standings and ended rows -/
structure TriOk (S : Qs) (lot : List Nat) (t : Nat × Nat × Nat) : Prop where
  a : t.1 < S.tbl.length
  b : t.2.1 < S.tbl.length
  e : t.2.2 ≤ (othG S lot).headD 0
def aftL (S : Qs) (lot : List Nat) (t : Nat × Nat × Nat) (i j : Nat) : List (Nat × Nat × Nat) := (opn2 S lot t.2.2).map fun c => (ld S lot t.1 i c, ld S lot t.2.1 j c, gn2 S lot c)
theorem opens_at {gs : List Nat} {e : Nat} (h : e ≤ gs.headD 0) : (opensOf gs)[e]? = some ((List.range gs.length).filter fun i => decide (e &&& gs.getD i 0 = e)) := by
  unfold opensOf
  rw [List.getElem?_map, List.getElem?_range (by omega)]
  rfl
theorem opens_lt {gs : List Nat} {e i : Nat} (h : i ∈ (opensOf gs).getD e []) : i < gs.length := by
  rw [List.getD_eq_getElem?_getD] at h
  cases q : (opensOf gs)[e]? with
  | none => rw [q] at h; cases h
  | some xs =>
    rw [q] at h
    unfold opensOf at q
    rw [List.getElem?_map] at q
    obtain ⟨e2, _, rfl⟩ := Option.map_eq_some_iff.mp q
    exact List.mem_range.mp (List.mem_filter.mp h).1
theorem opens_le (gs : List Nat) (e : Nat) : ((opensOf gs).getD e []).length ≤ gs.length := by
  rw [List.getD_eq_getElem?_getD]
  cases q : (opensOf gs)[e]? with
  | none => exact Nat.zero_le _
  | some xs =>
    unfold opensOf at q
    rw [List.getElem?_map] at q
    obtain ⟨e2, _, rfl⟩ := Option.map_eq_some_iff.mp q
    refine Nat.le_trans (List.length_filter_le _ _) ?_
    rw [List.length_range]
    exact Nat.le_refl _
theorem key_tri (t : Nat × Nat × Nat) : isKey (triD t) := ⟨.tup [.num t.1, .num t.2.1, .num t.2.2], rfl, by
  rw [NestedKey.depth, NestedKey.depthAll, NestedKey.depthAll, NestedKey.depthAll, NestedKey.depthAll, NestedKey.depth, NestedKey.depth, NestedKey.depth]
  decide⟩
theorem triD_inj {a b : Nat × Nat × Nat} (h : triD a = triD b) : a = b := by
  obtain ⟨a1, a2, a3⟩ := a
  obtain ⟨b1, b2, b3⟩ := b
  unfold triD at h
  injection h with h
  injection h with h1 h
  injection h with h2 h
  injection h with h3 _
  have e1 : a1 = b1 := nD_inj h1
  have e2 : a2 = b2 := nD_inj h2
  have e3 : a3 = b3 := nD_inj h3
  rw [e1, e2, e3]
/-! ### which rows are over -/
theorem goneN_snoc (c : List Nat) (s : Nat) : goneN (c ++ [s]) = goneN c + if s = 45 then 2 ^ c.length else 0 := by
  unfold goneN
  rw [List.zipIdx_append, List.filter_append, List.map_append, List.sum_append]
  congr 1
  by_cases h : s = 45
  · rw [if_pos h]; simp [h]
  · rw [if_neg h]; simp [h]
theorem goneN_lt : ∀ (n : Nat) (c : List Nat), c.length = n → goneN c < 2 ^ n
  | 0, c, h => by rw [List.length_eq_zero_iff.mp h]; decide
  | n + 1, c, h => by
    have hne : c ≠ [] := fun e => by rw [e] at h; cases h
    have e := (List.dropLast_concat_getLast hne).symm
    have hl : c.dropLast.length = n := by rw [List.length_dropLast]; omega
    have ih := goneN_lt n c.dropLast hl
    rw [e, goneN_snoc, hl, Nat.pow_succ]
    split <;> omega
theorem goneN_all : ∀ n : Nat, goneN (List.replicate n 45) = 2 ^ n - 1
  | 0 => rfl
  | n + 1 => by
    rw [List.replicate_succ', goneN_snoc, goneN_all n, if_pos rfl, List.length_replicate, Nat.pow_succ]
    have := Nat.two_pow_pos n
    omega
theorem goneN_bit : ∀ (n : Nat) (c : List Nat), c.length = n → ∀ i, (goneN c).testBit i = decide (c[i]? = some 45)
  | 0, c, h, i => by rw [List.length_eq_zero_iff.mp h]; simp [goneN]
  | n + 1, c, h, i => by
    have hne : c ≠ [] := fun e => by rw [e] at h; cases h
    have e := (List.dropLast_concat_getLast hne).symm
    have hl : c.dropLast.length = n := by rw [List.length_dropLast]; omega
    have ih := goneN_bit n c.dropLast hl
    have lt := goneN_lt n c.dropLast hl
    rw [e, goneN_snoc, hl]
    by_cases hs : c.getLast hne = 45
    · rw [if_pos hs, Nat.add_comm]
      rcases Nat.lt_trichotomy i n with hi | hi | hi
      · rw [Nat.testBit_two_pow_add_gt hi, ih, List.getElem?_append_left (by omega)]
      · subst hi
        rw [Nat.testBit_two_pow_add_eq, Nat.testBit_lt_two_pow lt, List.getElem?_append_right (by omega), hl]
        simp [hs]
      · have h2 : 2 ^ n + goneN c.dropLast < 2 ^ i := by
          have := Nat.pow_le_pow_right (show 0 < 2 by decide) (show n + 1 ≤ i by omega)
          rw [Nat.pow_succ] at this
          omega
        rw [Nat.testBit_lt_two_pow h2, List.getElem?_append_right (by omega), List.getElem?_eq_none (by rw [List.length_singleton]; omega)]
        rfl
    · rw [if_neg hs, Nat.add_zero, ih]
      by_cases hi : i < n
      · rw [List.getElem?_append_left (by omega)]
      · rw [List.getElem?_eq_none (by omega), List.getElem?_append_right (by omega)]
        rcases Nat.lt_or_ge i (n + 1) with h2 | h2
        · rw [show i - c.dropLast.length = 0 by omega]
          simp [hs]
        · rw [List.getElem?_eq_none (by rw [List.length_singleton]; omega)]
theorem cols_head {l : Nat} : ∀ r : Nat, (cols r (sg l))[0]? = some (List.replicate r 45)
  | 0 => rfl
  | r + 1 => by
    show (List.flatMap _ (cols r (sg l)))[0]? = _
    have h0 : (sg l)[0]? = some 45 := by
      unfold sg
      cases l <;> rfl
    have := flatMap_at (S := sg l) (cols r (sg l)) 0 0 _ 45 (cols_head r) h0
    rw [Nat.zero_mul, Nat.zero_add] at this
    rw [this, List.replicate_succ']
theorem cols_ne (r l : Nat) : 0 < (cols r (sg l)).length := (List.getElem?_eq_some_iff.mp (cols_head r)).1
section
variable {S : Qs} {lot : List Nat}
theorem othG_head (S : Qs) (lot : List Nat) : (othG S lot).headD 0 = 2 ^ (othersOf S.r lot).length - 1 := by
  have h := cols_head (l := S.l) (othersOf S.r lot).length
  have hd : ∀ xs : List Nat, xs.headD 0 = (xs[0]?).getD 0 := fun xs => by cases xs <;> rfl
  unfold othG othC
  rw [hd, List.getElem?_map, h]
  exact goneN_all _
theorem othG_at {j : Nat} (hj : j < (othG S lot).length) : gn2 S lot j ≤ (othG S lot).headD 0 := by
  have h2 : j < (othC S lot).length := by unfold othG at hj; rw [List.length_map] at hj; exact hj
  have hc : (othC S lot)[j] ∈ othC S lot := List.getElem_mem h2
  have := goneN_lt _ _ (cols_mem.mp hc).1
  rw [othG_head]
  have e : gn2 S lot j = goneN ((othC S lot)[j]) := by
    unfold gn2 othG
    rw [List.getD_eq_getElem?_getD, List.getElem?_map, List.getElem?_eq_getElem h2]
    rfl
  rw [e]
  omega
theorem ld_lt (ok : S.Ok) {st i j : Nat} (hs : st < S.tbl.length) (hi : i < (lotC S lot).length) (hj : j < (othC S lot).length) : ld S lot st i j = lead S st (placeC S.r lot ((lotC S lot).getD i []) ((othC S lot).getD j [])) ∧ ld S lot st i j < S.tbl.length := by
  have e : ld S lot st i j = lead S st (placeC S.r lot ((lotC S lot).getD i []) ((othC S lot).getD j [])) := by
    unfold ld leadL
    rw [List.getD_eq_getElem?_getD, List.getD_eq_getElem?_getD, List.getElem?_map, List.getElem?_eq_getElem hi]
    show ((List.map _ _)[j]?).getD 0 = _
    rw [List.getElem?_map, List.getElem?_eq_getElem hj, List.getD_eq_getElem?_getD, List.getElem?_eq_getElem hi, List.getD_eq_getElem?_getD, List.getElem?_eq_getElem hj]
    rfl
  refine ⟨e, ?_⟩
  rw [e]
  have m1 : (lotC S lot).getD i [] ∈ lotC S lot := by rw [List.getD_eq_getElem?_getD, List.getElem?_eq_getElem hi]; exact List.getElem_mem hi
  have m2 : (othC S lot).getD j [] ∈ othC S lot := by rw [List.getD_eq_getElem?_getD, List.getElem?_eq_getElem hj]; exact List.getElem_mem hj
  exact lead_lt ok hs (place_mem ok.l2 m1 m2)
theorem othG_len : (othG S lot).length = (othC S lot).length := by unfold othG; rw [List.length_map]
theorem aft_ok (ok : S.Ok) {t t' : Nat × Nat × Nat} {i j : Nat} (h : TriOk S lot t) (hi : i < (lotC S lot).length) (hj : j < (lotC S lot).length) (m : t' ∈ aftL S lot t i j) : TriOk S lot t' := by
  obtain ⟨c, hc, rfl⟩ := List.mem_map.mp m
  have hcl : c < (othG S lot).length := opens_lt hc
  exact ⟨(ld_lt ok h.a hi (by rw [← othG_len]; exact hcl)).2, (ld_lt ok h.b hj (by rw [← othG_len]; exact hcl)).2, othG_at hcl⟩
theorem lotC_ne (S : Qs) (lot : List Nat) : 0 < (lotC S lot).length := cols_ne _ _
/-- all triples -/
def allTri (S : Qs) (lot : List Nat) : List (Nat × Nat × Nat) := (List.range S.tbl.length).flatMap fun a => (List.range S.tbl.length).flatMap fun b => (List.range ((othG S lot).headD 0 + 1)).flatMap fun e => [(a, b, e)]
theorem allTri_mem {t : Nat × Nat × Nat} : t ∈ allTri S lot ↔ TriOk S lot t := by
  unfold allTri
  constructor
  · intro h
    obtain ⟨a, ha, h⟩ := List.mem_flatMap.mp h
    obtain ⟨b, hb, h⟩ := List.mem_flatMap.mp h
    obtain ⟨e, he, h⟩ := List.mem_flatMap.mp h
    rw [List.mem_singleton.mp h]
    exact ⟨List.mem_range.mp ha, List.mem_range.mp hb, by have := List.mem_range.mp he; show e ≤ _; omega⟩
  · intro h
    obtain ⟨a, b, e⟩ := t
    exact List.mem_flatMap.mpr ⟨a, List.mem_range.mpr h.a, List.mem_flatMap.mpr ⟨b, List.mem_range.mpr h.b, List.mem_flatMap.mpr ⟨e, List.mem_range.mpr (by have : e ≤ _ := h.e; omega), List.mem_singleton.mpr rfl⟩⟩⟩
theorem flatMap_le {α β : Type} (f : α → List β) (n : Nat) : ∀ xs : List α, (∀ x ∈ xs, (f x).length ≤ n) → (xs.flatMap f).length ≤ xs.length * n
  | [], _ => by simp
  | x :: r, h => by
    rw [List.flatMap_cons, List.length_append, List.length_cons, Nat.succ_mul]
    have := flatMap_le f n r fun y hy => h y (List.mem_cons_of_mem _ hy)
    have := h x List.mem_cons_self
    omega
theorem allTri_len (ok : S.Ok) (lo : LotOk S.r lot) : (allTri S lot).length ≤ 512 := by
  have r4 := ok.r4
  have hol := others_len lo
  have hg : (othG S lot).headD 0 + 1 ≤ 8 := by
    rw [othG_head]
    have := Nat.pow_le_pow_right (show 0 < 2 by decide) (show (othersOf S.r lot).length ≤ 3 by have := lo.ne; omega)
    omega
  have t8 := ok.t8
  have h1 : ∀ a b : Nat, ((List.range ((othG S lot).headD 0 + 1)).flatMap fun e => [(a, b, e)]).length ≤ 8 := fun a b => by
    have := flatMap_le (fun e => [(a, b, e)]) 1 (List.range ((othG S lot).headD 0 + 1)) fun _ _ => Nat.le_refl _
    rw [List.length_range] at this
    omega
  have h2 : ∀ a : Nat, ((List.range S.tbl.length).flatMap fun b => (List.range ((othG S lot).headD 0 + 1)).flatMap fun e => [(a, b, e)]).length ≤ 64 := fun a => by
    have := flatMap_le _ 8 (List.range S.tbl.length) fun b _ => h1 a b
    rw [List.length_range] at this
    omega
  have := flatMap_le _ 64 (List.range S.tbl.length) fun a _ => h2 a
  rw [List.length_range] at this
  unfold allTri
  omega
/-- a set of triples that has what must be in it has all that can become unlike -/
theorem unl_in (ok : S.Ok) {I : Nat × Nat × Nat → Prop} (base : ∀ t, TriOk S lot t → flg S t.1 ≠ flg S t.2.1 → I t) (cl : ∀ t, TriOk S lot t → (∃ t' ∈ aftL S lot t 0 0, I t') → I t) : ∀ a b e, Unl S lot a b e → TriOk S lot (a, b, e) → I (a, b, e) := by
  intro a b e u
  induction u with
  | here h => exact fun t => base _ t h
  | @step a b e j hj _ ih =>
    intro t
    have m : (ld S lot a 0 j, ld S lot b 0 j, gn2 S lot j) ∈ aftL S lot (a, b, e) 0 0 := List.mem_map.mpr ⟨j, hj, rfl⟩
    exact cl _ t ⟨_, m, ih (aft_ok ok t (lotC_ne _ _) (lotC_ne _ _) m)⟩
end
theorem key_pair (t : Nat × Nat) : isKey (pairD t) := ⟨.tup [.num t.1, .num t.2], rfl, by
  rw [NestedKey.depth, NestedKey.depthAll, NestedKey.depthAll, NestedKey.depthAll, NestedKey.depth, NestedKey.depth]
  decide⟩
theorem pairD_inj {a b : Nat × Nat} (h : pairD a = pairD b) : a = b := by
  obtain ⟨a1, a2⟩ := a
  obtain ⟨b1, b2⟩ := b
  unfold pairD at h
  injection h with h
  injection h with h1 h
  injection h with h2 h
  have e1 : a1 = b1 := nD_inj h1
  have e2 : a2 = b2 := nD_inj h2
  rw [e1, e2]
def allPairs (m : Nat) : List (Nat × Nat) := (List.range m).flatMap fun a => (List.range m).map fun b => (a, b)
theorem allPairs_mem {m : Nat} {t : Nat × Nat} : t ∈ allPairs m ↔ t.1 < m ∧ t.2 < m := by
  unfold allPairs
  constructor
  · intro h
    obtain ⟨a, ha, h⟩ := List.mem_flatMap.mp h
    obtain ⟨b, hb, rfl⟩ := List.mem_map.mp h
    exact ⟨List.mem_range.mp ha, List.mem_range.mp hb⟩
  · intro h
    exact List.mem_flatMap.mpr ⟨t.1, List.mem_range.mpr h.1, List.mem_map.mpr ⟨t.2, List.mem_range.mpr h.2, rfl⟩⟩
theorem allPairs_len (m : Nat) (h : m ≤ 8) : (allPairs m).length ≤ 64 := by
  have := flatMap_le (fun a => (List.range m).map fun b => (a, b)) 8 (List.range m) fun a _ => by rw [List.length_map, List.length_range]; exact h
  rw [List.length_range] at this
  unfold allPairs
  omega
/-- the goals of a standing: for each column of the others the standings to which it leads -/
structure GoalsOk (S : Qs) (lot : List Nat) (st : Nat) (g : List (List Nat)) : Prop where
  len : g.length = (othC S lot).length
  at_ : ∀ c, c < (othC S lot).length → ∀ x, x ∈ g.getD c [] ↔ ∃ i, i < (lotC S lot).length ∧ ld S lot st i c = x
  few : ∀ xs ∈ g, xs.length ≤ 8
/-! ### fields by their places -/
theorem look_take {fs : List (Str × D)} (nd : (fs.map (·.1)).Nodup) {i n : Nat} {f : Str} {y : D} (e : fs[i]? = some (f, y)) (hi : i < n) : (fs.take n).lookup f = some y := by
  induction fs generalizing i n with
  | nil => cases e
  | cons p r ih =>
    obtain ⟨g, z⟩ := p
    obtain ⟨m, rfl⟩ : ∃ m, n = m + 1 := ⟨n - 1, by omega⟩
    rw [List.take_succ_cons, List.lookup_cons]
    cases i with
    | zero =>
      simp at e
      obtain ⟨rfl, rfl⟩ := e
      rw [beq_self_eq_true]
    | succ i =>
      rw [List.map_cons, List.nodup_cons] at nd
      have e' : r[i]? = some (f, y) := by simpa using e
      have hm : f ∈ r.map (·.1) := List.mem_map.mpr ⟨_, List.mem_of_getElem? e', rfl⟩
      have ne : (f == g) = false := beq_false_of_ne fun z => nd.1 (z ▸ hm)
      rw [ne]
      exact ih nd.2 e' (by omega)
theorem look_none {fs : List (Str × D)} {f : Str} (h : f ∉ fs.map (·.1)) : fs.lookup f = none := by
  induction fs with
  | nil => rfl
  | cons p r ih =>
    rw [List.map_cons, List.mem_cons, not_or] at h
    rw [List.lookup_cons, show (f == p.1) = false from beq_false_of_ne h.1]
    exact ih h.2
theorem look_takeN {fs : List (Str × D)} {f : Str} (h : f ∉ fs.map (·.1)) (n : Nat) : (fs.take n).lookup f = none := look_none fun z => h (by
  rw [List.map_take] at z
  exact List.mem_of_mem_take z)
theorem putA_new {fs : List (Str × D)} {f : Str} {y : D} (h : f ∉ fs.map (·.1)) : putA f y fs = fs ++ [(f, y)] := by
  induction fs with
  | nil => rfl
  | cons p r ih =>
    rw [List.map_cons, List.mem_cons, not_or] at h
    show (if p.1 = f then (p.1, y) :: r else p :: putA f y r) = _
    rw [if_neg (fun z => h.1 z.symm), ih h.2]
    rfl
theorem put_step {fs : List (Str × D)} (nd : (fs.map (·.1)).Nodup) {n : Nat} {f : Str} {y : D} (e : fs[n]? = some (f, y)) : putA f y (fs.take n) = fs.take (n + 1) := by
  have hn := (List.getElem?_eq_some_iff.mp e).1
  have en := (List.getElem?_eq_some_iff.mp e).2
  rw [putA_new, List.take_succ_eq_append_getElem hn, en]
  intro z
  rw [List.map_take] at z
  have e2 : (fs.map (·.1))[n]? = some f := by rw [List.getElem?_map, e]; rfl
  obtain ⟨i, hi⟩ := List.mem_iff_getElem?.mp z
  rw [List.getElem?_take] at hi
  split at hi
  · rename_i hlt
    have h1 := (List.getElem?_eq_some_iff.mp hi).1
    have h2 := (List.getElem?_eq_some_iff.mp e2).1
    have := (List.getElem_inj (h₀ := h1) (h₁ := h2) nd).mp (by rw [(List.getElem?_eq_some_iff.mp hi).2, (List.getElem?_eq_some_iff.mp e2).2])
    omega
  · cases hi
theorem fld_step {K : PySem.W.Frag} {h : DH} {s Cc : Addr} {full : List (Str × D)} {n : Nat} {f : Str} {y : D} {N : DH → Prop} (nd : (full.map (·.1)).Nodup) (hA : HasA K Cc f) (e : full[n]? = some (f, y)) (hl : full.length < 100) (q : N (put h s (.ins Cc (full.take (n + 1))))) :
    insAt (put h s (.ins Cc (full.take n))) s fun C fs => HasA K C f ∧ fs.length < 1000 ∧ N (put (put h s (.ins Cc (full.take n))) s (.ins C (putA f y fs))) := by
  refine insAt_of put_same ⟨hA, ?_, ?_⟩
  · have := List.length_take_le n full
    have h2 : (full.take n).length ≤ full.length := by rw [List.length_take]; omega
    omega
  · rw [put_put, put_step nd e]
    exact q
theorem split_nd {C : Nat → Addr} {S : Qs} {k : Addr} {lot : List Nat} {u p : D} : ((splitFs C S k lot u p).map (·.1)).Nodup := by
  show (["question", "lot", "others", "lot_columns", "other_columns", "lot_gone", "other_gone", "lot_open", "other_open", "lead", "flags", "unlike", "partable"] : List Str).Nodup
  decide +kernel
theorem split_no {C : Nat → Addr} {S : Qs} {k : Addr} {lot : List Nat} {u p : D} {m : Str} (h : m ∉ (["question", "lot", "others", "lot_columns", "other_columns", "lot_gone", "other_gone", "lot_open", "other_open", "lead", "flags", "unlike", "partable"] : List Str)) (n : Nat) : ((splitFs C S k lot u p).take n).lookup m = none := look_takeN h n
theorem sf1_take {C : Nat → Addr} {S : Qs} {k : Addr} {lot : List Nat} {u p : D} {n : Nat} (h : 5 ≤ n) : SF1 C S k lot ((splitFs C S k lot u p).take n) :=
  ⟨look_take split_nd (i := 0) rfl (by omega), look_take split_nd (i := 1) rfl (by omega), look_take split_nd (i := 2) rfl (by omega), look_take split_nd (i := 3) rfl (by omega), look_take split_nd (i := 4) rfl (by omega)⟩
theorem sf3_take {C : Nat → Addr} {S : Qs} {k : Addr} {lot : List Nat} {u p : D} {n : Nat} (h : 11 ≤ n) : SF3 C S k lot ((splitFs C S k lot u p).take n) :=
  { toSF1 := sf1_take (by omega), lgone := look_take split_nd (i := 5) rfl (by omega), ogone := look_take split_nd (i := 6) rfl (by omega), lopen := look_take split_nd (i := 7) rfl (by omega),
    oopen := look_take split_nd (i := 8) rfl (by omega), leadf := look_take split_nd (i := 9) rfl (by omega), flags := look_take split_nd (i := 10) rfl (by omega) }
theorem split_whole {C : Nat → Addr} {S : Qs} {k : Addr} {lot : List Nat} {u p : D} : (splitFs C S k lot u p).take 13 = splitFs C S k lot u p := rfl
theorem splitV_at {C : Nat → Addr} {S : Qs} {k : Addr} {lot : List Nat} {u p : D} {h : DH} : SelfAt h (splitV C S k lot u p) (C 1) ((splitFs C S k lot u p).take 13) := .inr rfl
/-! ### what may be compared -/
theorem toPDs_strs : ∀ xs : List Str, toPDs (xs.map D.str) = some (xs.map PyData.str)
  | [] => rfl
  | x :: r => by rw [List.map_cons, toPDs, toPD, toPDs_strs r]; rfl
theorem lay_strs : ∀ xs : List Str, (∀ x ∈ xs, PySem.PyData.strOk x = true) → PyData.canLayAll0 (xs.map PyData.str) = true
  | [], _ => rfl
  | x :: r, h => by
    rw [List.map_cons, PyData.canLayAll0, PyData.canLay0, h x List.mem_cons_self, lay_strs r fun y hy => h y (List.mem_cons_of_mem _ hy)]
    rfl
theorem depth_strs : ∀ xs : List Str, PyData.depthAll (xs.map PyData.str) = 0
  | [] => rfl
  | x :: r => by rw [List.map_cons, PyData.depthAll, depth_strs r, PyData.depth]; rfl
theorem cmp_strs {xs : List Str} (h : ∀ x ∈ xs, PySem.PyData.strOk x = true) : Cmp (.tup (xs.map D.str)) := by
  refine ⟨.tuple (xs.map PyData.str), by rw [toPD, toPDs_strs]; rfl, ?_⟩
  unfold SeqAt.shaped
  rw [PyData.canLay0, lay_strs xs h, PyData.depth, depth_strs]
  rfl
theorem sg_small {l s : Nat} (h : s ∈ sg l) : s < 1114112 := by
  have := List.mem_of_mem_take h
  simp at this
  omega
theorem cmp_col {l : Nat} {c : List Nat} (h : ∀ s ∈ c, s ∈ sg l) : Cmp (encC c) := by
  have e : encC c = .tup ((c.map fun s => (⟨#[s]⟩ : Str)).map D.str) := by unfold encC; rw [List.map_map]; rfl
  rw [e]
  refine cmp_strs fun x hx => ?_
  obtain ⟨s, hs, rfl⟩ := List.mem_map.mp hx
  have := sg_small (h s hs)
  show (Array.all #[s] fun z => decide (z < 1114112)) = true
  simp [this]
theorem pd_col (c : List Nat) : toPD (encC c) = some (.tuple (c.map fun s => .str ⟨#[s]⟩)) := by
  have e : encC c = .tup ((c.map fun s => (⟨#[s]⟩ : Str)).map D.str) := by unfold encC; rw [List.map_map]; rfl
  rw [e, toPD, toPDs_strs, List.map_map]
  rfl
theorem cmp_cols {l : Nat} : ∀ {L : List (List Nat)}, (∀ c ∈ L, ∀ s ∈ c, s ∈ sg l) → Cmp (.tup (L.map encC)) := by
  intro L h
  have h1 : toPDs (L.map encC) = some (L.map fun c => .tuple (c.map fun s => .str ⟨#[s]⟩)) := by
    clear h
    induction L with
    | nil => rfl
    | cons c r ih => rw [List.map_cons, toPDs, pd_col, ih]; rfl
  have h2 : PyData.canLayAll0 (L.map fun c => PyData.tuple (c.map fun s => .str ⟨#[s]⟩)) = true ∧ PyData.depthAll (L.map fun c => PyData.tuple (c.map fun s => .str ⟨#[s]⟩)) ≤ 1 := by
    clear h1
    induction L with
    | nil => exact ⟨rfl, Nat.zero_le _⟩
    | cons c r ih =>
      obtain ⟨i1, i2⟩ := ih fun d hd => h d (List.mem_cons_of_mem _ hd)
      obtain ⟨p, e, hs⟩ := cmp_col (h c List.mem_cons_self)
      rw [pd_col] at e
      cases e
      have hs1 := PySem.SeqAt.canLay_of_shaped hs
      rw [List.map_cons, PyData.canLayAll0, hs1, i1, PyData.depthAll]
      refine ⟨rfl, ?_⟩
      have : (PyData.tuple (c.map fun s => PyData.str ⟨#[s]⟩)).depth = 1 := by
        rw [PyData.depth]
        have := depth_strs (c.map fun s => (⟨#[s]⟩ : Str))
        rw [List.map_map] at this
        rw [show (c.map fun s => PyData.str ⟨#[s]⟩) = c.map (PyData.str ∘ fun s => ⟨#[s]⟩) from rfl, this]
      omega
  refine ⟨.tuple (L.map fun c => .tuple (c.map fun s => .str ⟨#[s]⟩)), by rw [toPD, h1]; rfl, ?_⟩
  unfold SeqAt.shaped
  rw [PyData.canLay0, h2.1, PyData.depth, Bool.true_and]
  exact decide_eq_true (by omega)
/-! ### words -/
structure Wds (r l : Nat) (ws : List Str) : Prop where
  len : ws.length = r
  ok : WordsOk l ws
  short : ∀ z ∈ ws, z.length ≤ 60
theorem line60 : 60 ≤ sizeLine := by rw [sizeLine_eq]; decide
theorem col_sign (z : Str) (pl : Nat) (h : pl < z.length) : atI z.cps.toList (pl : Int) = some (z.cps.toList.getD pl 45) := by
  have h' : pl < z.cps.toList.length := by rw [Array.length_toList]; exact h
  rw [atI_n, List.getD_eq_getElem?_getD, List.getElem?_eq_getElem h']
  rfl
theorem col_gone (z : Str) (pl : Nat) (h : ¬ pl < z.length) : z.cps.toList.getD pl 45 = 45 := by
  have h' : z.cps.toList.length ≤ pl := by rw [Array.length_toList]; exact Nat.le_of_not_lt h
  rw [List.getD_eq_getElem?_getD, List.getElem?_eq_none h']
  rfl
theorem foldl_maxI : ∀ (r : List Nat) (x : Nat), (r.map fun n : Nat => (n : Int)).foldl max (x : Int) = ((r.foldl max x : Nat) : Int)
  | [], _ => rfl
  | y :: r, x => by
    rw [List.map_cons, List.foldl_cons, List.foldl_cons, show max (x : Int) (y : Int) = ((max x y : Nat) : Int) by omega]
    exact foldl_maxI r (max x y)
theorem maxL_len (ws : List Str) : maxL (ws.map fun z => (z.length : Int)) = (maxLen ws : Int) := by
  cases ws with
  | nil => rfl
  | cons z ws =>
    unfold maxLen maxL
    rw [List.map_cons, List.map_cons, List.foldl_cons, Nat.zero_max, ← foldl_maxI, List.map_map]
    rfl
theorem foldl_max_le {m : Nat} : ∀ (r : List Nat) (x : Nat), x ≤ m → (∀ y ∈ r, y ≤ m) → r.foldl max x ≤ m
  | [], _, h, _ => h
  | y :: r, x, h, h2 => by
    rw [List.foldl_cons]
    exact foldl_max_le r _ (Nat.max_le.mpr ⟨h, h2 y List.mem_cons_self⟩) fun z hz => h2 z (List.mem_cons_of_mem _ hz)
theorem foldl_max_ge : ∀ (r : List Nat) (x : Nat), x ≤ r.foldl max x ∧ ∀ y ∈ r, y ≤ r.foldl max x
  | [], x => ⟨Nat.le_refl _, fun y h => by cases h⟩
  | z :: r, x => by
    obtain ⟨h1, h2⟩ := foldl_max_ge r (max x z)
    rw [List.foldl_cons]
    refine ⟨Nat.le_trans (Nat.le_max_left x z) h1, fun y hy => ?_⟩
    rcases List.mem_cons.mp hy with h | h
    · subst h; exact Nat.le_trans (Nat.le_max_right x y) h1
    · exact h2 y h
theorem maxLen_le {ws : List Str} {m : Nat} (h : ∀ z ∈ ws, z.length ≤ m) : maxLen ws ≤ m := by
  refine foldl_max_le _ _ (Nat.zero_le _) fun y hy => ?_
  obtain ⟨z, hz, rfl⟩ := List.mem_map.mp hy
  exact h z hz
theorem le_maxLen {ws : List Str} {z : Str} (h : z ∈ ws) : z.length ≤ maxLen ws := (foldl_max_ge _ _).2 _ (List.mem_map.mpr ⟨z, h, rfl⟩)
/-- the numbers of the columns of words -/
def numsOf (l : Nat) (ws : List Str) : List Nat := (List.range (maxLen ws)).map fun p => val (l + 1) (colAt ws p)
def mkS (xs : List Nat) : Str := ⟨xs.toArray⟩
/-- the words that columns make -/
def wordsIn (cs : List (List Nat)) (n : Nat) : List Str := (List.range n).map fun i => mkS ((cs.filter fun c => decide (c.getD i 45 ≠ 45)).map fun c => c.getD i 45)
theorem join_mk (cs : List Nat) : Txt.join ("" : Str) (cs.map chS) = mkS cs := by
  have h := join_chars cs
  unfold mkS
  generalize Txt.join ("" : Str) (cs.map chS) = z at h ⊢
  cases z with
  | mk a =>
    subst h
    simp
end My
/-! M4: the search for words that part, in plain mathematics. -/
namespace My
open PySem PySem.Spec PyProof.Rows L2 DL

abbrev Nd := Nat × (Nat × Nat × Nat)
section
variable (S : Qs) (lot : List Nat) (w1 w2 : List Nat)
/-- from this place on all columns are without letters -/
def whl : Nat := max w1.length w2.length
/-- how a node goes on with a column of the others -/
def sucN (n : Nd) (c : Nat) : Nd := (min (whl w1 w2) (n.1 + 1), (ld S lot n.2.1 (w1.getD n.1 0) c, ld S lot n.2.2.1 (w2.getD n.1 0) c, gn2 S lot c))
def isGoal (n : Nd) : Prop := n.1 = whl w1 w2 ∧ flg S n.2.1 ≠ flg S n.2.2.1
instance (n : Nd) : Decidable (isGoal S w1 w2 n) := by unfold isGoal; exact inferInstance
def startN : Nd := (0, (0, 0, 0))
/-- nodes by the columns that lead to them -/
inductive Rch : List Nat → Nd → Prop
  | start : Rch [] startN
  | step {l : List Nat} {n : Nd} {c : Nat} : Rch l n → c ∈ opn2 S lot n.2.2.2 → Rch (l ++ [c]) (sucN S lot w1 w2 n c)
structure NdOk (n : Nd) : Prop where
  pl : n.1 ≤ whl w1 w2
  tr : TriOk S lot n.2
/-- the nodes that wait, each with what it came of -/
abbrev Wt := List (Nd × Option (Nd × Nat))
/-- one more goal -/
def addOne (n : Nd) (W : Wt) (c : Nat) : Wt := if sucN S lot w1 w2 n c ∈ W.map (·.1) then W else W ++ [(sucN S lot w1 w2 n c, some (n, c))]
def addAll (n : Nd) (W : Wt) (cs : List Nat) : Wt := cs.foldl (addOne S lot w1 w2 n) W
/-- the numbers that lead to a node, the last one first -/
def backL (W : Wt) : Nat → Nd → List Nat
  | 0, _ => []
  | f + 1, n => match W.lookup n with
    | some (some (m, c)) => c :: backL W f m
    | _ => []
/-- the search -/
def bfs : Nat → Wt → Nat → Option (List Nat)
  | 0, _, _ => none
  | f + 1, W, i => match W[i]? with
    | none => none
    | some e => if isGoal S w1 w2 e.1 then some (backL W W.length e.1).reverse else bfs f (addAll S lot w1 w2 e.1 W (opn2 S lot e.1.2.2.2)) (i + 1)
/-- what holds of those that wait, i of them dealt with -/
structure BOk (W : Wt) (i : Nat) : Prop where
  nd : (W.map (·.1)).Nodup
  ok : ∀ e ∈ W, NdOk S lot w1 w2 e.1
  head : W[0]? = some (startN, none)
  par : ∀ j n o, 0 < j → W[j]? = some (n, o) → ∃ j' m o' c, j' < j ∧ W[j']? = some (m, o') ∧ o = some (m, c) ∧ c ∈ opn2 S lot m.2.2.2 ∧ n = sucN S lot w1 w2 m c
  done : ∀ j n o, j < i → W[j]? = some (n, o) → ¬ isGoal S w1 w2 n ∧ ∀ c ∈ opn2 S lot n.2.2.2, sucN S lot w1 w2 n c ∈ W.map (·.1)
  le : i ≤ W.length
end
variable {S : Qs} {lot : List Nat} {w1 w2 : List Nat}
theorem suc_ok (ok : S.Ok) {n : Nd} {c : Nat} (h : NdOk S lot w1 w2 n) (h1 : ∀ x ∈ w1, x < (lotC S lot).length) (h2 : ∀ x ∈ w2, x < (lotC S lot).length) (hc : c ∈ opn2 S lot n.2.2.2) : NdOk S lot w1 w2 (sucN S lot w1 w2 n c) := by
  have hcl : c < (othG S lot).length := opens_lt hc
  have at_ : ∀ (w : List Nat) (p : Nat), (∀ x ∈ w, x < (lotC S lot).length) → w.getD p 0 < (lotC S lot).length := fun w p hw => by
    rw [List.getD_eq_getElem?_getD]
    cases e : w[p]? with
    | none => exact lotC_ne _ _
    | some x => exact hw x (List.mem_of_getElem? e)
  refine ⟨Nat.min_le_left _ _, ?_⟩
  rw [othG_len] at hcl
  exact ⟨(ld_lt ok h.tr.a (at_ _ _ h1) hcl).2, (ld_lt ok h.tr.b (at_ _ _ h2) hcl).2, othG_at (by rw [othG_len]; exact hcl)⟩
theorem look_at {W : Wt} (nd : (W.map (·.1)).Nodup) {j : Nat} {n : Nd} {o : Option (Nd × Nat)} (e : W[j]? = some (n, o)) : W.lookup n = some o := by
  induction W generalizing j with
  | nil => simp at e
  | cons p r ih =>
    obtain ⟨m, u⟩ := p
    rw [List.lookup_cons]
    cases j with
    | zero =>
      simp at e
      obtain ⟨rfl, rfl⟩ := e
      rw [beq_self_eq_true]
    | succ j =>
      have e' : r[j]? = some (n, o) := by simpa using e
      rw [List.map_cons, List.nodup_cons] at nd
      have hm : n ∈ r.map (·.1) := List.mem_map.mpr ⟨_, List.mem_of_getElem? e', rfl⟩
      rw [show (n == m) = false from beq_false_of_ne fun z => nd.1 (z ▸ hm)]
      exact ih nd.2 e'
/-- adding keeps what stood -/
theorem addAll_pre (n : Nd) : ∀ (cs : List Nat) (W : Wt), ∃ more, addAll S lot w1 w2 n W cs = W ++ more
  | [], W => ⟨[], (List.append_nil W).symm⟩
  | c :: cs, W => by
    obtain ⟨m2, e2⟩ := addAll_pre n cs (addOne S lot w1 w2 n W c)
    show ∃ more, addAll S lot w1 w2 n (addOne S lot w1 w2 n W c) cs = W ++ more
    rw [e2]
    unfold addOne
    split
    · exact ⟨m2, rfl⟩
    · exact ⟨_, List.append_assoc _ _ _⟩
/-- what holds while the goals of one node are added -/
structure BMid (S : Qs) (lot w1 w2 : List Nat) (W : Wt) (i : Nat) (n : Nd) (cs : List Nat) : Prop where
  b : BOk S lot w1 w2 W i
  here : ∃ o, W[i]? = some (n, o)
  ng : ¬ isGoal S w1 w2 n
  added : ∀ c ∈ cs, sucN S lot w1 w2 n c ∈ W.map (·.1)
theorem addOne_ok (ok : S.Ok) (h1 : ∀ x ∈ w1, x < (lotC S lot).length) (h2 : ∀ x ∈ w2, x < (lotC S lot).length) {W : Wt} {i : Nat} {n : Nd} {cs : List Nat} (m : BMid S lot w1 w2 W i n cs) {c : Nat} (hc : c ∈ opn2 S lot n.2.2.2) : BMid S lot w1 w2 (addOne S lot w1 w2 n W c) i n (cs ++ [c]) := by
  obtain ⟨⟨nd, okn, hd, par, done, le⟩, ⟨o, here⟩, ng, added⟩ := m
  unfold addOne
  split
  · rename_i hin
    refine ⟨⟨nd, okn, hd, par, done, le⟩, ⟨o, here⟩, ng, fun d hd' => ?_⟩
    rcases List.mem_append.mp hd' with h | h
    · exact added d h
    · rw [List.mem_singleton.mp h]; exact hin
  · rename_i hin
    have old : ∀ {j : Nat} {e : Nd × Option (Nd × Nat)}, W[j]? = some e → (W ++ [(sucN S lot w1 w2 n c, some (n, c))])[j]? = some e := fun {j e} z => by
      rw [List.getElem?_append_left (List.getElem?_eq_some_iff.mp z).1]
      exact z
    have mem : ∀ {x : Nd}, x ∈ W.map (·.1) → x ∈ (W ++ [(sucN S lot w1 w2 n c, some (n, c))]).map (·.1) := fun {x} z => by
      rw [List.map_append]
      exact List.mem_append_left _ z
    have hi := (List.getElem?_eq_some_iff.mp here).1
    refine ⟨⟨?_, fun e he => ?_, old hd, fun j x o2 hj e => ?_, fun j x o2 hj e => ?_, by rw [List.length_append]; omega⟩, ⟨o, old here⟩, ng, fun d hd' => ?_⟩
    · rw [List.map_append, List.nodup_append]
      refine ⟨nd, by simp, fun a ha b hb z => ?_⟩
      rw [List.map_cons, List.map_nil, List.mem_singleton] at hb
      rw [hb] at z
      have z2 : a = sucN S lot w1 w2 n c := z
      exact hin (z2 ▸ ha)
    · rcases List.mem_append.mp he with h | h
      · exact okn e h
      · rw [List.mem_singleton.mp h]
        exact suc_ok ok (okn _ (List.mem_of_getElem? here)) h1 h2 hc
    · rcases Nat.lt_or_ge j W.length with hj2 | hj2
      · rw [List.getElem?_append_left hj2] at e
        obtain ⟨j', m, o', c', q1, q2, q3⟩ := par j x o2 hj e
        exact ⟨j', m, o', c', q1, old q2, q3⟩
      · rw [List.getElem?_append_right hj2] at e
        have e0 : j - W.length = 0 := by
          have := (List.getElem?_eq_some_iff.mp e).1
          rw [List.length_singleton] at this
          omega
        rw [e0] at e
        simp at e
        obtain ⟨rfl, rfl⟩ := e
        exact ⟨i, n, o, c, by omega, old here, rfl, hc, rfl⟩
    · rw [List.getElem?_append_left (by omega)] at e
      obtain ⟨q1, q2⟩ := done j x o2 hj e
      exact ⟨q1, fun c' hc' => mem (q2 c' hc')⟩
    · rcases List.mem_append.mp hd' with h | h
      · exact mem (added d h)
      · rw [List.mem_singleton.mp h, List.map_append]
        exact List.mem_append_right _ (List.mem_singleton.mpr rfl)
theorem addAll_ok (ok : S.Ok) (h1 : ∀ x ∈ w1, x < (lotC S lot).length) (h2 : ∀ x ∈ w2, x < (lotC S lot).length) {i : Nat} {n : Nd} : ∀ (cs : List Nat) {W : Wt} {ds : List Nat}, BMid S lot w1 w2 W i n ds → (∀ c ∈ cs, c ∈ opn2 S lot n.2.2.2) → BMid S lot w1 w2 (addAll S lot w1 w2 n W cs) i n (ds ++ cs)
  | [], W, ds, m, _ => by rw [List.append_nil]; exact m
  | c :: cs, W, ds, m, h => by
    have := addAll_ok ok h1 h2 cs (addOne_ok ok h1 h2 m (h c List.mem_cons_self)) fun d hd => h d (List.mem_cons_of_mem _ hd)
    rw [List.append_assoc] at this
    exact this
theorem BMid.next {W : Wt} {i : Nat} {n : Nd} (m : BMid S lot w1 w2 W i n (opn2 S lot n.2.2.2)) : BOk S lot w1 w2 W (i + 1) := by
  obtain ⟨⟨nd, okn, hd, par, done, le⟩, ⟨o, here⟩, ng, added⟩ := m
  refine ⟨nd, okn, hd, par, fun j x o2 hj e => ?_, (List.getElem?_eq_some_iff.mp here).1⟩
  by_cases hji : j < i
  · exact done j x o2 hji e
  · have : j = i := by omega
    subst this
    rw [here] at e
    cases e
    exact ⟨ng, added⟩
theorem bok_start (ok : S.Ok) : BOk S lot w1 w2 [(startN, none)] 0 := by
  refine ⟨by simp, fun e he => ?_, rfl, fun j n o hj e => ?_, fun j n o hj => absurd hj (Nat.not_lt_zero _), Nat.zero_le _⟩
  · rw [List.mem_singleton.mp he]
    exact ⟨Nat.zero_le _, ⟨ok.t1, ok.t1, Nat.zero_le _⟩⟩
  · cases j with
    | zero => omega
    | succ j => simp at e
/-- all nodes -/
def allNd (S : Qs) (lot w1 w2 : List Nat) : List Nd := (List.range (whl w1 w2 + 1)).flatMap fun p => (allTri S lot).map fun t => (p, t)
theorem allNd_mem {n : Nd} (h : NdOk S lot w1 w2 n) : n ∈ allNd S lot w1 w2 :=
  List.mem_flatMap.mpr ⟨n.1, List.mem_range.mpr (by have := h.pl; omega), List.mem_map.mpr ⟨n.2, allTri_mem.mpr h.tr, rfl⟩⟩
theorem allNd_len (ok : S.Ok) (lo : LotOk S.r lot) : (allNd S lot w1 w2).length ≤ (whl w1 w2 + 1) * 512 := by
  have := flatMap_le (fun p => (allTri S lot).map fun t => ((p, t) : Nd)) 512 (List.range (whl w1 w2 + 1)) fun p _ => by rw [List.length_map]; exact allTri_len ok lo
  rw [List.length_range] at this
  exact this
theorem BOk.len {W : Wt} {i : Nat} (b : BOk S lot w1 w2 W i) : W.length ≤ (allNd S lot w1 w2).length := by
  have := nodup_le b.nd fun x hx => by
    obtain ⟨e, he, rfl⟩ := List.mem_map.mp hx
    exact allNd_mem (b.ok e he)
  rw [List.length_map] at this
  exact this
/-- the way back leads to the node -/
theorem back_rch {W : Wt} {i : Nat} (b : BOk S lot w1 w2 W i) : ∀ (j : Nat) (n : Nd) (o : Option (Nd × Nat)) (f : Nat), W[j]? = some (n, o) → j < f → Rch S lot w1 w2 (backL W f n).reverse n := by
  intro j
  induction j using Nat.strongRecOn with
  | _ j ih =>
    intro n o f e hf
    obtain ⟨f, rfl⟩ : ∃ g, f = g + 1 := ⟨f - 1, by omega⟩
    have lk := look_at b.nd e
    rcases Nat.eq_zero_or_pos j with h0 | h0
    · subst h0
      have e2 := b.head
      rw [e] at e2
      cases e2
      rw [backL, lk]
      exact .start
    · obtain ⟨j', m, o', c, hj, e2, rfl, hc, rfl⟩ := b.par j n o h0 e
      rw [backL, lk]
      dsimp only
      rw [List.reverse_cons]
      exact .step (ih j' hj m o' f e2 (by omega)) hc
/-- what a node came of is told of the way back, by its entries -/
theorem back_len {W : Wt} : ∀ (f : Nat) (n : Nd), (backL W f n).length ≤ f
  | 0, _ => Nat.le_refl _
  | f + 1, n => by
    rw [backL]
    split
    · rw [List.length_cons]
      have := back_len (W := W) f
      rename_i m c _
      have := this m
      omega
    · exact Nat.zero_le _
theorem rch_in {W : Wt} (b : BOk S lot w1 w2 W W.length) : ∀ {l : List Nat} {n : Nd}, Rch S lot w1 w2 l n → n ∈ W.map (·.1) := by
  intro l n r
  induction r with
  | start => exact List.mem_map.mpr ⟨_, List.mem_of_getElem? b.head, rfl⟩
  | @step l n c r hc ih =>
    obtain ⟨⟨x, o⟩, he, rfl⟩ := List.mem_map.mp ih
    obtain ⟨j, hj⟩ := List.mem_iff_getElem?.mp he
    exact (b.done j x o (List.getElem?_eq_some_iff.mp hj).1 hj).2 c hc
theorem rch_opn {l : List Nat} {n : Nd} (r : Rch S lot w1 w2 l n) : ∀ c ∈ l, c < (othC S lot).length := by
  induction r with
  | start => intro c hc; cases hc
  | step r hc ih =>
    intro d hd
    rcases List.mem_append.mp hd with h | h
    · exact ih d h
    · rw [List.mem_singleton.mp h, ← othG_len]
      exact opens_lt hc
/-- THE SEARCH finds what there is -/
theorem bfs_ok (ok : S.Ok) (h1 : ∀ x ∈ w1, x < (lotC S lot).length) (h2 : ∀ x ∈ w2, x < (lotC S lot).length) : ∀ (f : Nat) (W : Wt) (i : Nat), BOk S lot w1 w2 W i → (allNd S lot w1 w2).length + 1 ≤ f + i →
    (bfs S lot w1 w2 f W i = none ∧ ∀ l n, Rch S lot w1 w2 l n → ¬ isGoal S w1 w2 n) ∨ ∃ l n, bfs S lot w1 w2 f W i = some l ∧ Rch S lot w1 w2 l n ∧ isGoal S w1 w2 n
  | 0, W, i, b, hf => by
    have := b.len
    have := b.le
    omega
  | f + 1, W, i, b, hf => by
    rw [bfs]
    cases e : W[i]? with
    | none =>
      have hi : i = W.length := by
        have := List.getElem?_eq_none_iff.mp e
        have := b.le
        omega
      subst hi
      refine .inl ⟨rfl, fun l n r hg => ?_⟩
      obtain ⟨⟨x, o⟩, he, rfl⟩ := List.mem_map.mp (rch_in b r)
      obtain ⟨j, hj⟩ := List.mem_iff_getElem?.mp he
      exact (b.done j x o (List.getElem?_eq_some_iff.mp hj).1 hj).1 hg
    | some p =>
      obtain ⟨n, o⟩ := p
      dsimp only
      by_cases hg : isGoal S w1 w2 n
      · rw [if_pos hg]
        exact .inr ⟨_, n, rfl, back_rch b i n o _ e (List.getElem?_eq_some_iff.mp e).1, hg⟩
      · rw [if_neg hg]
        have m : BMid S lot w1 w2 W i n [] := ⟨b, ⟨o, e⟩, hg, fun c hc => by cases hc⟩
        have m2 := addAll_ok ok h1 h2 (opn2 S lot n.2.2.2) m fun c hc => hc
        exact bfs_ok ok h1 h2 f _ _ m2.next (by omega)
theorem bfs_len (ok : S.Ok) (h1 : ∀ x ∈ w1, x < (lotC S lot).length) (h2 : ∀ x ∈ w2, x < (lotC S lot).length) : ∀ (f : Nat) (W : Wt) (i : Nat) (l : List Nat), BOk S lot w1 w2 W i → bfs S lot w1 w2 f W i = some l → l.length ≤ (allNd S lot w1 w2).length
  | 0, _, _, _, _, e => by cases e
  | f + 1, W, i, l, b, e => by
    rw [bfs] at e
    cases ei : W[i]? with
    | none => rw [ei] at e; cases e
    | some p =>
      obtain ⟨n, o⟩ := p
      rw [ei] at e
      dsimp only at e
      by_cases hg : isGoal S w1 w2 n
      · rw [if_pos hg] at e
        cases e
        rw [List.length_reverse]
        exact Nat.le_trans (back_len _ _) b.len
      · rw [if_neg hg] at e
        have m : BMid S lot w1 w2 W i n [] := ⟨b, ⟨o, ei⟩, hg, fun c hc => by cases hc⟩
        have m2 := addAll_ok ok h1 h2 (opn2 S lot n.2.2.2) m fun c hc => hc
        exact bfs_len ok h1 h2 f _ _ l m2.next e
/-- the result of the search -/
def partedR (S : Qs) (lot w1 w2 : List Nat) : Option (List Nat) := bfs S lot w1 w2 ((allNd S lot w1 w2).length + 1) [(startN, none)] 0
/-! ### as data -/
def nodeD (n : Nd) : D := .tup [nD n.1, triD n.2]
theorem nodeD_inj {a b : Nd} (h : nodeD a = nodeD b) : a = b := by
  obtain ⟨a1, a2⟩ := a
  obtain ⟨b1, b2⟩ := b
  unfold nodeD at h
  injection h with h
  injection h with h1 h
  injection h with h2 h
  have e1 : a1 = b1 := nD_inj h1
  have e2 : a2 = b2 := triD_inj h2
  rw [e1, e2]
theorem key_node (n : Nd) : isKey (nodeD n) := ⟨.tup [.num n.1, .tup [.num n.2.1, .num n.2.2.1, .num n.2.2.2]], rfl, by
  rw [NestedKey.depth, NestedKey.depthAll, NestedKey.depthAll, NestedKey.depthAll, NestedKey.depth, NestedKey.depth, NestedKey.depthAll, NestedKey.depthAll, NestedKey.depthAll, NestedKey.depthAll, NestedKey.depth, NestedKey.depth, NestedKey.depth]
  decide⟩
def ofD : Option (Nd × Nat) → D
  | none => .non
  | some (m, c) => .tup [nodeD m, nD c]
def entD (e : Nd × Option (Nd × Nat)) : D × D := (nodeD e.1, ofD e.2)
theorem look_ent (W : Wt) (n : Nd) : dlook (W.map entD) (nodeD n) = (W.lookup n).map ofD := by
  induction W with
  | nil => rfl
  | cons p r ih =>
    obtain ⟨m, o⟩ := p
    rw [List.map_cons, dlook_cons, List.lookup_cons]
    by_cases e : m = n
    · subst e
      rw [if_pos (show (entD (m, o)).1 = nodeD m from rfl), beq_self_eq_true]
      rfl
    · rw [if_neg (show ¬ (entD (m, o)).1 = nodeD n from fun z => e (nodeD_inj z)), show (n == m) = false from beq_false_of_ne fun z => e z.symm]
      exact ih
theorem look_in {W : Wt} {n : Nd} : (dlook (W.map entD) (nodeD n)).isSome = true ↔ n ∈ W.map (·.1) := by
  rw [dlook_mem, List.map_map]
  constructor
  · intro h
    obtain ⟨e, he, q⟩ := List.mem_map.mp h
    exact List.mem_map.mpr ⟨e, he, nodeD_inj q⟩
  · intro h
    obtain ⟨e, he, rfl⟩ := List.mem_map.mp h
    exact List.mem_map.mpr ⟨e, he, rfl⟩
/-- what a way back tells -/
inductive Back (kvs : List (D × D)) : D → List D → Prop
  | stop {n : D} : isKey n → dlook kvs n = some .non → Back kvs n []
  | step {n n' w : D} {ws : List D} : isKey n → dlook kvs n = some (.tup [n', w]) → Back kvs n' ws → Back kvs n (w :: ws)
theorem back_told {W : Wt} {i : Nat} (b : BOk S lot w1 w2 W i) : ∀ (j : Nat) (n : Nd) (o : Option (Nd × Nat)) (f : Nat), W[j]? = some (n, o) → j < f → Back (W.map entD) (nodeD n) ((backL W f n).map nD) := by
  intro j
  induction j using Nat.strongRecOn with
  | _ j ih =>
    intro n o f e hf
    obtain ⟨f, rfl⟩ : ∃ g, f = g + 1 := ⟨f - 1, by omega⟩
    have lk := look_at b.nd e
    rcases Nat.eq_zero_or_pos j with h0 | h0
    · subst h0
      have e2 := b.head
      rw [e] at e2
      cases e2
      rw [backL, lk]
      exact .stop (key_node _) (by rw [look_ent, lk]; rfl)
    · obtain ⟨j', m, o', c, hj, e2, rfl, hc, rfl⟩ := b.par j n o h0 e
      rw [backL, lk]
      dsimp only
      rw [List.map_cons]
      exact .step (key_node _) (by rw [look_ent, lk]; rfl) (ih j' hj m o' f e2 (by omega))
end My
local macro_rules | `(tactic| walk_at "dgo") => `(tactic| try simp only [DL.sSeq, DL.sNext, DL.sAsg, DL.sRet, DL.sRetN, DL.sIf, DL.sDrop, DL.sFor, DL.sNever, DL.sFld, DL.sPar, DL.sBreak, DL.sCont, DL.sAug, DL.dVar, DL.dC, DL.dOp, DL.dTest, DL.asB, DL.dAnd, DL.dOr, DL.dNot, DL.dAndV, DL.dOrV, DL.dNotV, DL.dIf, DL.dChain, DL.dUn, DL.dNeg,
  DL.dNil, DL.dCons, DL.dTup, DL.dLst, DL.dCall, DL.dSl, DL.dPart, DL.dNoPart, DL.asI, DL.dLc, DL.dLc2, DL.dLcN, DL.dML, DL.dML0, DL.dMS, DL.dMD, DL.dMake, DL.dMeth, DL.dFld, DL.dDNew, DL.dDc, DL.gNm, DL.gTp, DL.gCn, DL.gNl, DL.gSb, DL.iLs, DL.iTp, DL.iSt, DL.iR1, DL.iR2, DL.iRg, DL.iEn, DL.iEnT, DL.iZp, DL.iZpM, DL.iZpML, DL.iDk, DL.dYes, DL.dwipe,
  DL.dAdd, DL.dI2, DL.dB2, DL.eqS, DL.dEqA, DL.dNeA, DL.dIs, DL.dIsNot, DL.isN, DL.dMul, DL.dIx, DL.dIxD, DL.dCut, DL.dLen, DL.dLenD, DL.dAbs, DL.dInt, DL.dTupOf, DL.dAll, DL.dAny, DL.dMax, DL.dMin, DL.dSum, DL.dRange, DL.dRev, DL.dIn, DL.dNotIn, DL.dInA, DL.dNotInA, DL.memD, DL.inD, DL.dAppend, DL.dExtend, DL.dFind, DL.dJoin, DL.dIndex, DL.dGet, DL.dSetL, DL.dSetD, DL.dUpdate, DL.dDictOf, DL.dListZip, DL.dSortSet, DL.dDict1, DL.dIsi, DL.tyName,
  DL.dFrz, DL.dPur, DL.sOpn, DL.sLess, DL.dCo, DL.dLess, DL.frz_int, DL.frz_str, DL.frz_bl, DL.frz_non, DL.frz_tup, DL.frz_rol, DL.frz_rod, DL.frz_obj, DL.seqAt, DL.seqSt, DL.dctV,
  DL.sp0, DL.sp1, DL.sp2, DL.sp3, DL.sp4, DL.sp5, DL.oAt_some, Option.isSome_none, Option.isSome_some, Option.getD_none, Option.getD_some, DL.ite_tt, DL.ite_ff, ite_true, ite_false, decide_true, decide_false, DL.atI_0, DL.atI_1, DL.atI_2, DL.atI_3, List.getElem?_cons_zero, List.getElem?_cons_succ, List.set_cons_zero, List.set_cons_succ, List.map_cons, List.map_nil, List.length_cons, List.length_nil, true_and, and_true, Bool.not_true, Bool.not_false, Bool.true_and, Bool.and_true,
  DL.sz0, DL.sz1, DL.sz2, DL.sz3, DL.sz4, DL.allB_f, DL.allI_f, DL.allS_f, DL.all_true, DL.kit_int_int, DL.kit_int_bool, DL.kit_int_str, DL.kit_int_tuple, DL.kit_bool_bool, DL.kit_bool_int, DL.kit_str_str, DL.kit_str_int, DL.kit_str_tuple, DL.kit_tuple_tuple, DL.kit_tuple_int, DL.kit_tuple_str, DL.kit_list_tuple, DL.kit_none_tuple, Option.some.injEq, exists_eq_left'])
namespace My
open PySem PySem.Spec PyProof.Rows L2 DL
def topS (i : Nat) : Stmt := PySem.Challenge.pw_rowwalkers_k76_whole_words_parted.main.body.getD i (.Pass ⟨0, 0, 0, 0⟩)
abbrev s_is_integer : Stmt := topS 8
abbrev s_is_within : Stmt := topS 9
abbrev s_is_pair : Stmt := topS 10
abbrev s_is_string_of : Stmt := topS 11
abbrev s_is_letters : Stmt := topS 12
abbrev s_is_ascending : Stmt := topS 13
abbrev s_columns : Stmt := topS 20
abbrev s_readings : Stmt := topS 21
abbrev s_is_standing : Stmt := topS 22
abbrev s_Question_init : Stmt := inClass (topS 23) 0
abbrev s_numbers_of : Stmt := topS 24
abbrev s_read : Stmt := topS 25
abbrev s_are_words : Stmt := topS 26
abbrev s_check_words : Stmt := topS 27
abbrev s_gone_in : Stmt := topS 29
abbrev s_Split_open_columns : Stmt := inClass (topS 30) 1
abbrev s_Split_leads_of : Stmt := inClass (topS 30) 2
abbrev s_Split_after : Stmt := inClass (topS 30) 3
abbrev s_Split_meets : Stmt := inClass (topS 30) 8
abbrev s_Split_unlike_ones : Stmt := inClass (topS 30) 4
abbrev s_Split_goals_of : Stmt := inClass (topS 30) 5
abbrev s_Split_can_part : Stmt := inClass (topS 30) 7
abbrev s_Split_partable_pairs : Stmt := inClass (topS 30) 6
abbrev s_Split_init : Stmt := inClass (topS 30) 0
abbrev s_words_in : Stmt := topS 33
abbrev s_Split_numbers_of : Stmt := inClass (topS 30) 9
abbrev s_Split_other_words : Stmt := inClass (topS 30) 11
abbrev s_at_or_none : Stmt := topS 31
abbrev s_way_back : Stmt := topS 32
abbrev s_Split_parted : Stmt := inClass (topS 30) 12
abbrev s_split_of : Stmt := topS 34
abbrev s_check_lot : Stmt := topS 36
abbrev s_parted : Stmt := topS 37
abbrev s_wpool : Stmt := topS 39
abbrev s_wdraw : Stmt := topS 40
abbrev s_wpick : Stmt := topS 41
abbrev s_wcolumns : Stmt := topS 42
abbrev s_wlead : Stmt := topS 43
abbrev s_wcolumn_at : Stmt := topS 44
abbrev s_wanswer : Stmt := topS 45
abbrev s_wby_rows : Stmt := topS 46
abbrev s_wdrawn_table : Stmt := topS 47
abbrev s_wfirst_signs : Stmt := topS 48
abbrev s_wcompared : Stmt := topS 49
abbrev s_wspec : Stmt := topS 50
abbrev s_wquestion : Stmt := topS 51
abbrev s_wothers : Stmt := topS 52
abbrev s_wlot : Stmt := topS 53
abbrev s_wplaced : Stmt := topS 54
abbrev s_wgoes : Stmt := topS 55
abbrev s_wparted : Stmt := topS 56
abbrev s_wdrawn_words : Stmt := topS 57
abbrev s_wall_words : Stmt := topS 58
abbrev s_ware_words : Stmt := topS 59
abbrev s_law : Stmt := topS 60
theorem sc_is_integer : FnScope ["thing"] ["thing"] (defScope s_is_integer) := ⟨rfl, rfl, rfl, by decide +kernel, rfl, by decide +kernel, by decide +kernel⟩
theorem sc_is_within : FnScope ["thing", "least", "most"] ["thing", "least", "most"] (defScope s_is_within) := ⟨rfl, rfl, rfl, by decide +kernel, rfl, by decide +kernel, by decide +kernel⟩
theorem sc_is_pair : FnScope ["thing"] ["thing"] (defScope s_is_pair) := ⟨rfl, rfl, rfl, by decide +kernel, rfl, by decide +kernel, by decide +kernel⟩
theorem sc_is_string_of : FnScope ["thing", "signs", "sign"] ["thing", "signs"] (defScope s_is_string_of) := ⟨rfl, rfl, rfl, by decide +kernel, rfl, by decide +kernel, by decide +kernel⟩
theorem sc_is_letters : FnScope ["thing", "letters"] ["thing", "letters"] (defScope s_is_letters) := ⟨rfl, rfl, rfl, by decide +kernel, rfl, by decide +kernel, by decide +kernel⟩
theorem sc_is_ascending : FnScope ["thing", "many", "number", "at"] ["thing", "many"] (defScope s_is_ascending) := ⟨rfl, rfl, rfl, by decide +kernel, rfl, by decide +kernel, by decide +kernel⟩
theorem sc_columns : FnScope ["rows", "letters", "found", "row", "column", "sign"] ["rows", "letters"] (defScope s_columns) := ⟨rfl, rfl, rfl, by decide +kernel, rfl, by decide +kernel, by decide +kernel⟩
theorem sc_readings : FnScope ["rows", "letters"] ["rows", "letters"] (defScope s_readings) := ⟨rfl, rfl, rfl, by decide +kernel, rfl, by decide +kernel, by decide +kernel⟩
theorem sc_is_standing : FnScope ["thing", "many", "wide", "later"] ["thing", "many", "wide"] (defScope s_is_standing) := ⟨rfl, rfl, rfl, by decide +kernel, rfl, by decide +kernel, by decide +kernel⟩
theorem sc_Question_init : FnScope ["self", "rows", "letters", "table", "wide", "item"] ["self", "rows", "letters", "table"] (defScope s_Question_init) := ⟨rfl, rfl, rfl, by decide +kernel, rfl, by decide +kernel, by decide +kernel⟩
theorem sc_numbers_of : FnScope ["question", "listed", "number", "reading"] ["question"] (defScope s_numbers_of) := ⟨rfl, rfl, rfl, by decide +kernel, rfl, by decide +kernel, by decide +kernel⟩
theorem sc_read : FnScope ["question", "standing", "reading", "number"] ["question", "standing", "reading"] (defScope s_read) := ⟨rfl, rfl, rfl, by decide +kernel, rfl, by decide +kernel, by decide +kernel⟩
theorem sc_are_words : FnScope ["many", "letters", "thing", "word"] ["many", "letters", "thing"] (defScope s_are_words) := ⟨rfl, rfl, rfl, by decide +kernel, rfl, by decide +kernel, by decide +kernel⟩
theorem sc_check_words : FnScope ["many", "letters", "thing"] ["many", "letters", "thing"] (defScope s_check_words) := ⟨rfl, rfl, rfl, by decide +kernel, rfl, by decide +kernel, by decide +kernel⟩
theorem sc_gone_in : FnScope ["column", "at", "sign"] ["column"] (defScope s_gone_in) := ⟨rfl, rfl, rfl, by decide +kernel, rfl, by decide +kernel, by decide +kernel⟩
theorem sc_Split_open_columns : FnScope ["self", "gone", "ended", "at", "now"] ["self", "gone"] (defScope s_Split_open_columns) := ⟨rfl, rfl, rfl, by decide +kernel, rfl, by decide +kernel, by decide +kernel⟩
theorem sc_Split_leads_of : FnScope ["self", "standing", "found", "column", "row", "other", "signs", "at"] ["self", "standing"] (defScope s_Split_leads_of) := ⟨rfl, rfl, rfl, by decide +kernel, rfl, by decide +kernel, by decide +kernel⟩
theorem sc_Split_after : FnScope ["self", "triple", "column", "second", "one", "other", "ended", "ahead", "beside", "at"] ["self", "triple", "column", "second"] (defScope s_Split_after) := ⟨rfl, rfl, rfl, by decide +kernel, rfl, by decide +kernel, by decide +kernel⟩
theorem sc_Split_meets : FnScope ["self", "found", "triples", "triple"] ["self", "found", "triples"] (defScope s_Split_meets) := ⟨rfl, rfl, rfl, by decide +kernel, rfl, by decide +kernel, by decide +kernel⟩
theorem sc_Split_unlike_ones : FnScope ["self", "many", "triples", "found", "is_new", "more", "one", "other", "ended", "triple"] ["self"] (defScope s_Split_unlike_ones) := ⟨rfl, rfl, rfl, by decide +kernel, rfl, by decide +kernel, by decide +kernel⟩
theorem sc_Split_goals_of : FnScope ["self", "standing", "many", "at", "row"] ["self", "standing"] (defScope s_Split_goals_of) := ⟨rfl, rfl, rfl, by decide +kernel, rfl, by decide +kernel, by decide +kernel⟩
theorem sc_Split_can_part : FnScope ["self", "found", "goals", "pair", "ones", "others", "one", "other"] ["self", "found", "goals", "pair"] (defScope s_Split_can_part) := ⟨rfl, rfl, rfl, by decide +kernel, rfl, by decide +kernel, by decide +kernel⟩
theorem sc_Split_partable_pairs : FnScope ["self", "goals", "pairs", "found", "is_new", "more", "standing", "one", "other", "pair"] ["self"] (defScope s_Split_partable_pairs) := ⟨rfl, rfl, rfl, by decide +kernel, rfl, by decide +kernel, by decide +kernel⟩
theorem sc_Split_init : FnScope ["self", "question", "lot", "row", "column", "standing", "item"] ["self", "question", "lot"] (defScope s_Split_init) := ⟨rfl, rfl, rfl, by decide +kernel, rfl, by decide +kernel, by decide +kernel⟩
theorem sc_words_in : FnScope ["listed", "many", "row", "column"] ["listed", "many"] (defScope s_words_in) := ⟨rfl, rfl, rfl, by decide +kernel, rfl, by decide +kernel, by decide +kernel⟩
theorem sc_Split_numbers_of : FnScope ["self", "words", "found", "place", "column", "word"] ["self", "words"] (defScope s_Split_numbers_of) := ⟨rfl, rfl, rfl, by decide +kernel, rfl, by decide +kernel, by decide +kernel⟩
theorem sc_Split_other_words : FnScope ["self", "numbers", "number"] ["self", "numbers"] (defScope s_Split_other_words) := ⟨rfl, rfl, rfl, by decide +kernel, rfl, by decide +kernel, by decide +kernel⟩
theorem sc_at_or_none : FnScope ["numbers", "place"] ["numbers", "place"] (defScope s_at_or_none) := ⟨rfl, rfl, rfl, by decide +kernel, rfl, by decide +kernel, by decide +kernel⟩
theorem sc_way_back : FnScope ["came", "node", "found", "what"] ["came", "node"] (defScope s_way_back) := ⟨rfl, rfl, rfl, by decide +kernel, rfl, by decide +kernel, by decide +kernel⟩
theorem sc_Split_parted : FnScope ["self", "first", "second", "whole", "came", "waiting", "number", "node", "place", "triple", "columns_now", "later", "at", "more", "goal"] ["self", "first", "second"] (defScope s_Split_parted) := ⟨rfl, rfl, rfl, by decide +kernel, rfl, by decide +kernel, by decide +kernel⟩
theorem sc_split_of : FnScope ["question", "lot"] ["question", "lot"] (defScope s_split_of) := ⟨rfl, rfl, rfl, by decide +kernel, rfl, by decide +kernel, by decide +kernel⟩
theorem sc_check_lot : FnScope ["question", "lot"] ["question", "lot"] (defScope s_check_lot) := ⟨rfl, rfl, rfl, by decide +kernel, rfl, by decide +kernel, by decide +kernel⟩
theorem sc_parted : FnScope ["question", "lot", "first", "second", "split", "found"] ["question", "lot", "first", "second"] (defScope s_parted) := ⟨rfl, rfl, rfl, by decide +kernel, rfl, by decide +kernel, by decide +kernel⟩
theorem sc_wpool : FnScope ["script", "great", "small", "cell"] ["script"] (defScope s_wpool) := ⟨rfl, rfl, rfl, by decide +kernel, rfl, by decide +kernel, by decide +kernel⟩
theorem sc_wdraw : FnScope ["pool", "many", "digit", "cell", "number"] ["pool", "many"] (defScope s_wdraw) := ⟨rfl, rfl, rfl, by decide +kernel, rfl, by decide +kernel, by decide +kernel⟩
theorem sc_wpick : FnScope ["pool", "things"] ["pool", "things"] (defScope s_wpick) := ⟨rfl, rfl, rfl, by decide +kernel, rfl, by decide +kernel, by decide +kernel⟩
theorem sc_wcolumns : FnScope ["rows", "letters", "found", "row", "later", "column", "sign"] ["rows", "letters"] (defScope s_wcolumns) := ⟨rfl, rfl, rfl, by decide +kernel, rfl, by decide +kernel, by decide +kernel⟩
theorem sc_wlead : FnScope ["spec", "standing", "column", "number", "sign"] ["spec", "standing", "column"] (defScope s_wlead) := ⟨rfl, rfl, rfl, by decide +kernel, rfl, by decide +kernel, by decide +kernel⟩
theorem sc_wcolumn_at : FnScope ["words", "place", "word"] ["words", "place"] (defScope s_wcolumn_at) := ⟨rfl, rfl, rfl, by decide +kernel, rfl, by decide +kernel, by decide +kernel⟩
theorem sc_wanswer : FnScope ["spec", "words", "standing", "place", "word"] ["spec", "words"] (defScope s_wanswer) := ⟨rfl, rfl, rfl, by decide +kernel, rfl, by decide +kernel, by decide +kernel⟩
theorem sc_wby_rows : FnScope ["pool", "rows", "letters", "counted", "sign", "many", "table", "standing", "nexts", "column", "later", "at", "row"] ["pool", "rows", "letters"] (defScope s_wby_rows) := ⟨rfl, rfl, rfl, by decide +kernel, rfl, by decide +kernel, by decide +kernel⟩
theorem sc_wdrawn_table : FnScope ["pool", "rows", "letters", "many", "plain", "wide", "table", "standing", "usual", "nexts", "column", "later"] ["pool", "rows", "letters", "many", "plain"] (defScope s_wdrawn_table) := ⟨rfl, rfl, rfl, by decide +kernel, rfl, by decide +kernel, by decide +kernel⟩
theorem sc_wfirst_signs : FnScope ["pool", "rows", "letters", "row", "other", "table", "nexts", "at", "stays", "column"] ["pool", "rows", "letters"] (defScope s_wfirst_signs) := ⟨rfl, rfl, rfl, by decide +kernel, rfl, by decide +kernel, by decide +kernel⟩
theorem sc_wcompared : FnScope ["pool", "rows", "letters", "one", "other", "by_letter", "nexts", "column", "pair", "unlike"] ["pool", "rows", "letters"] (defScope s_wcompared) := ⟨rfl, rfl, rfl, by decide +kernel, rfl, by decide +kernel, by decide +kernel⟩
theorem sc_wspec : FnScope ["pool", "most_rows", "rows", "letters", "kind", "table"] ["pool", "most_rows"] (defScope s_wspec) := ⟨rfl, rfl, rfl, by decide +kernel, rfl, by decide +kernel, by decide +kernel⟩
theorem sc_wquestion : FnScope ["spec"] ["spec"] (defScope s_wquestion) := ⟨rfl, rfl, rfl, by decide +kernel, rfl, by decide +kernel, by decide +kernel⟩
theorem sc_wothers : FnScope ["rows", "lot", "row"] ["rows", "lot"] (defScope s_wothers) := ⟨rfl, rfl, rfl, by decide +kernel, rfl, by decide +kernel, by decide +kernel⟩
theorem sc_wlot : FnScope ["pool", "rows", "lot", "row"] ["pool", "rows"] (defScope s_wlot) := ⟨rfl, rfl, rfl, by decide +kernel, rfl, by decide +kernel, by decide +kernel⟩
theorem sc_wplaced : FnScope ["rows", "lot", "ahead", "other", "signs", "row"] ["rows", "lot", "ahead", "other"] (defScope s_wplaced) := ⟨rfl, rfl, rfl, by decide +kernel, rfl, by decide +kernel, by decide +kernel⟩
theorem sc_wgoes : FnScope ["ended", "column", "row"] ["ended", "column"] (defScope s_wgoes) := ⟨rfl, rfl, rfl, by decide +kernel, rfl, by decide +kernel, by decide +kernel⟩
theorem sc_wparted : FnScope ["spec", "lot", "first", "second", "rows", "letters", "table", "columns_v", "most", "here", "seen", "place", "key", "later", "ahead", "beside", "column", "one", "other", "ended", "signs", "word", "row", "sign"] ["spec", "lot", "first", "second"] (defScope s_wparted) := ⟨rfl, rfl, rfl, by decide +kernel, rfl, by decide +kernel, by decide +kernel⟩
theorem sc_wdrawn_words : FnScope ["pool", "rows", "letters", "most", "found", "row", "place"] ["pool", "rows", "letters", "most"] (defScope s_wdrawn_words) := ⟨rfl, rfl, rfl, by decide +kernel, rfl, by decide +kernel, by decide +kernel⟩
theorem sc_wall_words : FnScope ["rows", "lot", "told", "other", "found", "row"] ["rows", "lot", "told", "other"] (defScope s_wall_words) := ⟨rfl, rfl, rfl, by decide +kernel, rfl, by decide +kernel, by decide +kernel⟩
theorem sc_ware_words : FnScope ["many", "letters", "thing", "word", "sign"] ["many", "letters", "thing"] (defScope s_ware_words) := ⟨rfl, rfl, rfl, by decide +kernel, rfl, by decide +kernel, by decide +kernel⟩
theorem sc_law : FnScope ["script", "pool", "turn", "spec", "question", "rows", "letters", "table", "again", "lot", "first", "second", "due", "one", "two", "told", "answers", "words"] ["script"] (defScope s_law) := ⟨rfl, rfl, rfl, by decide +kernel, rfl, by decide +kernel, by decide +kernel⟩
structure Txt (K : PySem.W.Frag) (mg : Str → Option Value) where
  t_MOST_STANDINGS : Tok
  t_MOST_ROWS : Tok
  t_MOST_LETTERS : Tok
  t_LETTERS : Tok
  t_LEAST_ROWS : Tok
  t_GONE : Tok
  a_is_integer : Addr
  d_is_integer : FuncData
  F_is_integer : Fun K "is_integer" "is_integer" s_is_integer a_is_integer d_is_integer
  b_is_integer : Binds K d_is_integer ["thing"] []
  m_is_integer : mg "is_integer" = some (.ref a_is_integer)
  a_is_within : Addr
  d_is_within : FuncData
  F_is_within : Fun K "is_within" "is_within" s_is_within a_is_within d_is_within
  b_is_within : Binds K d_is_within ["thing", "least", "most"] []
  m_is_within : mg "is_within" = some (.ref a_is_within)
  a_is_pair : Addr
  d_is_pair : FuncData
  F_is_pair : Fun K "is_pair" "is_pair" s_is_pair a_is_pair d_is_pair
  b_is_pair : Binds K d_is_pair ["thing"] []
  m_is_pair : mg "is_pair" = some (.ref a_is_pair)
  a_is_string_of : Addr
  d_is_string_of : FuncData
  F_is_string_of : Fun K "is_string_of" "is_string_of" s_is_string_of a_is_string_of d_is_string_of
  b_is_string_of : Binds K d_is_string_of ["thing", "signs"] []
  m_is_string_of : mg "is_string_of" = some (.ref a_is_string_of)
  a_is_letters : Addr
  d_is_letters : FuncData
  F_is_letters : Fun K "is_letters" "is_letters" s_is_letters a_is_letters d_is_letters
  b_is_letters : Binds K d_is_letters ["thing", "letters"] []
  m_is_letters : mg "is_letters" = some (.ref a_is_letters)
  a_is_ascending : Addr
  d_is_ascending : FuncData
  F_is_ascending : Fun K "is_ascending" "is_ascending" s_is_ascending a_is_ascending d_is_ascending
  b_is_ascending : Binds K d_is_ascending ["thing", "many"] []
  m_is_ascending : mg "is_ascending" = some (.ref a_is_ascending)
  a_columns : Addr
  d_columns : FuncData
  F_columns : Fun K "columns" "columns" s_columns a_columns d_columns
  b_columns : Binds K d_columns ["rows", "letters"] []
  m_columns : mg "columns" = some (.ref a_columns)
  a_readings : Addr
  d_readings : FuncData
  F_readings : Fun K "readings" "readings" s_readings a_readings d_readings
  b_readings : Binds K d_readings ["rows", "letters"] []
  m_readings : mg "readings" = some (.ref a_readings)
  a_is_standing : Addr
  d_is_standing : FuncData
  F_is_standing : Fun K "is_standing" "is_standing" s_is_standing a_is_standing d_is_standing
  b_is_standing : Binds K d_is_standing ["thing", "many", "wide"] []
  m_is_standing : mg "is_standing" = some (.ref a_is_standing)
  a_Question_init : Addr
  d_Question_init : FuncData
  F_Question_init : Fun K "__init__" "Question.__init__" s_Question_init a_Question_init d_Question_init
  b_Question_init : Binds K d_Question_init ["self", "rows", "letters", "table"] []
  a_numbers_of : Addr
  d_numbers_of : FuncData
  F_numbers_of : Fun K "numbers_of" "numbers_of" s_numbers_of a_numbers_of d_numbers_of
  b_numbers_of : Binds K d_numbers_of ["question"] []
  m_numbers_of : mg "numbers_of" = some (.ref a_numbers_of)
  a_read : Addr
  d_read : FuncData
  F_read : Fun K "read" "read" s_read a_read d_read
  b_read : Binds K d_read ["question", "standing", "reading"] []
  m_read : mg "read" = some (.ref a_read)
  a_are_words : Addr
  d_are_words : FuncData
  F_are_words : Fun K "are_words" "are_words" s_are_words a_are_words d_are_words
  b_are_words : Binds K d_are_words ["many", "letters", "thing"] []
  m_are_words : mg "are_words" = some (.ref a_are_words)
  a_check_words : Addr
  d_check_words : FuncData
  F_check_words : Fun K "check_words" "check_words" s_check_words a_check_words d_check_words
  b_check_words : Binds K d_check_words ["many", "letters", "thing"] []
  m_check_words : mg "check_words" = some (.ref a_check_words)
  a_gone_in : Addr
  d_gone_in : FuncData
  F_gone_in : Fun K "gone_in" "gone_in" s_gone_in a_gone_in d_gone_in
  b_gone_in : Binds K d_gone_in ["column"] []
  m_gone_in : mg "gone_in" = some (.ref a_gone_in)
  a_Split_open_columns : Addr
  d_Split_open_columns : FuncData
  F_Split_open_columns : Fun K "open_columns" "Split.open_columns" s_Split_open_columns a_Split_open_columns d_Split_open_columns
  b_Split_open_columns : Binds K d_Split_open_columns ["self", "gone"] []
  a_Split_leads_of : Addr
  d_Split_leads_of : FuncData
  F_Split_leads_of : Fun K "leads_of" "Split.leads_of" s_Split_leads_of a_Split_leads_of d_Split_leads_of
  b_Split_leads_of : Binds K d_Split_leads_of ["self", "standing"] []
  a_Split_after : Addr
  d_Split_after : FuncData
  F_Split_after : Fun K "after" "Split.after" s_Split_after a_Split_after d_Split_after
  b_Split_after : Binds K d_Split_after ["self", "triple", "column", "second"] []
  a_Split_meets : Addr
  d_Split_meets : FuncData
  F_Split_meets : Fun K "meets" "Split.meets" s_Split_meets a_Split_meets d_Split_meets
  b_Split_meets : Binds K d_Split_meets ["self", "found", "triples"] []
  a_Split_unlike_ones : Addr
  d_Split_unlike_ones : FuncData
  F_Split_unlike_ones : Fun K "unlike_ones" "Split.unlike_ones" s_Split_unlike_ones a_Split_unlike_ones d_Split_unlike_ones
  b_Split_unlike_ones : Binds K d_Split_unlike_ones ["self"] []
  a_Split_goals_of : Addr
  d_Split_goals_of : FuncData
  F_Split_goals_of : Fun K "goals_of" "Split.goals_of" s_Split_goals_of a_Split_goals_of d_Split_goals_of
  b_Split_goals_of : Binds K d_Split_goals_of ["self", "standing"] []
  a_Split_can_part : Addr
  d_Split_can_part : FuncData
  F_Split_can_part : Fun K "can_part" "Split.can_part" s_Split_can_part a_Split_can_part d_Split_can_part
  b_Split_can_part : Binds K d_Split_can_part ["self", "found", "goals", "pair"] []
  a_Split_partable_pairs : Addr
  d_Split_partable_pairs : FuncData
  F_Split_partable_pairs : Fun K "partable_pairs" "Split.partable_pairs" s_Split_partable_pairs a_Split_partable_pairs d_Split_partable_pairs
  b_Split_partable_pairs : Binds K d_Split_partable_pairs ["self"] []
  a_Split_init : Addr
  d_Split_init : FuncData
  F_Split_init : Fun K "__init__" "Split.__init__" s_Split_init a_Split_init d_Split_init
  b_Split_init : Binds K d_Split_init ["self", "question", "lot"] []
  a_words_in : Addr
  d_words_in : FuncData
  F_words_in : Fun K "words_in" "words_in" s_words_in a_words_in d_words_in
  b_words_in : Binds K d_words_in ["listed", "many"] []
  m_words_in : mg "words_in" = some (.ref a_words_in)
  a_Split_numbers_of : Addr
  d_Split_numbers_of : FuncData
  F_Split_numbers_of : Fun K "numbers_of" "Split.numbers_of" s_Split_numbers_of a_Split_numbers_of d_Split_numbers_of
  b_Split_numbers_of : Binds K d_Split_numbers_of ["self", "words"] []
  a_Split_other_words : Addr
  d_Split_other_words : FuncData
  F_Split_other_words : Fun K "other_words" "Split.other_words" s_Split_other_words a_Split_other_words d_Split_other_words
  b_Split_other_words : Binds K d_Split_other_words ["self", "numbers"] []
  a_at_or_none : Addr
  d_at_or_none : FuncData
  F_at_or_none : Fun K "at_or_none" "at_or_none" s_at_or_none a_at_or_none d_at_or_none
  b_at_or_none : Binds K d_at_or_none ["numbers", "place"] []
  m_at_or_none : mg "at_or_none" = some (.ref a_at_or_none)
  a_way_back : Addr
  d_way_back : FuncData
  F_way_back : Fun K "way_back" "way_back" s_way_back a_way_back d_way_back
  b_way_back : Binds K d_way_back ["came", "node"] []
  m_way_back : mg "way_back" = some (.ref a_way_back)
  a_Split_parted : Addr
  d_Split_parted : FuncData
  F_Split_parted : Fun K "parted" "Split.parted" s_Split_parted a_Split_parted d_Split_parted
  b_Split_parted : Binds K d_Split_parted ["self", "first", "second"] []
  a_split_of : Addr
  d_split_of : FuncData
  F_split_of : Fun K "split_of" "split_of" s_split_of a_split_of d_split_of
  b_split_of : Binds K d_split_of ["question", "lot"] []
  m_split_of : mg "split_of" = some (.ref a_split_of)
  a_check_lot : Addr
  d_check_lot : FuncData
  F_check_lot : Fun K "check_lot" "check_lot" s_check_lot a_check_lot d_check_lot
  b_check_lot : Binds K d_check_lot ["question", "lot"] []
  m_check_lot : mg "check_lot" = some (.ref a_check_lot)
  a_parted : Addr
  d_parted : FuncData
  F_parted : Fun K "parted" "parted" s_parted a_parted d_parted
  b_parted : Binds K d_parted ["question", "lot", "first", "second"] []
  m_parted : mg "parted" = some (.ref a_parted)
  a_wpool : Addr
  d_wpool : FuncData
  F_wpool : Fun K "_law_pool" "_law_pool" s_wpool a_wpool d_wpool
  b_wpool : Binds K d_wpool ["script"] []
  m_wpool : mg "_law_pool" = some (.ref a_wpool)
  a_wdraw : Addr
  d_wdraw : FuncData
  F_wdraw : Fun K "_law_draw" "_law_draw" s_wdraw a_wdraw d_wdraw
  b_wdraw : Binds K d_wdraw ["pool", "many"] []
  m_wdraw : mg "_law_draw" = some (.ref a_wdraw)
  a_wpick : Addr
  d_wpick : FuncData
  F_wpick : Fun K "_law_pick" "_law_pick" s_wpick a_wpick d_wpick
  b_wpick : Binds K d_wpick ["pool", "things"] []
  m_wpick : mg "_law_pick" = some (.ref a_wpick)
  a_wcolumns : Addr
  d_wcolumns : FuncData
  F_wcolumns : Fun K "_law_columns" "_law_columns" s_wcolumns a_wcolumns d_wcolumns
  b_wcolumns : Binds K d_wcolumns ["rows", "letters"] []
  m_wcolumns : mg "_law_columns" = some (.ref a_wcolumns)
  a_wlead : Addr
  d_wlead : FuncData
  F_wlead : Fun K "_law_lead" "_law_lead" s_wlead a_wlead d_wlead
  b_wlead : Binds K d_wlead ["spec", "standing", "column"] []
  m_wlead : mg "_law_lead" = some (.ref a_wlead)
  a_wcolumn_at : Addr
  d_wcolumn_at : FuncData
  F_wcolumn_at : Fun K "_law_column_at" "_law_column_at" s_wcolumn_at a_wcolumn_at d_wcolumn_at
  b_wcolumn_at : Binds K d_wcolumn_at ["words", "place"] []
  m_wcolumn_at : mg "_law_column_at" = some (.ref a_wcolumn_at)
  a_wanswer : Addr
  d_wanswer : FuncData
  F_wanswer : Fun K "_law_answer" "_law_answer" s_wanswer a_wanswer d_wanswer
  b_wanswer : Binds K d_wanswer ["spec", "words"] []
  m_wanswer : mg "_law_answer" = some (.ref a_wanswer)
  a_wby_rows : Addr
  d_wby_rows : FuncData
  F_wby_rows : Fun K "_law_by_rows" "_law_by_rows" s_wby_rows a_wby_rows d_wby_rows
  b_wby_rows : Binds K d_wby_rows ["pool", "rows", "letters"] []
  m_wby_rows : mg "_law_by_rows" = some (.ref a_wby_rows)
  a_wdrawn_table : Addr
  d_wdrawn_table : FuncData
  F_wdrawn_table : Fun K "_law_drawn_table" "_law_drawn_table" s_wdrawn_table a_wdrawn_table d_wdrawn_table
  b_wdrawn_table : Binds K d_wdrawn_table ["pool", "rows", "letters", "many", "plain"] []
  m_wdrawn_table : mg "_law_drawn_table" = some (.ref a_wdrawn_table)
  a_wfirst_signs : Addr
  d_wfirst_signs : FuncData
  F_wfirst_signs : Fun K "_law_first_signs" "_law_first_signs" s_wfirst_signs a_wfirst_signs d_wfirst_signs
  b_wfirst_signs : Binds K d_wfirst_signs ["pool", "rows", "letters"] []
  m_wfirst_signs : mg "_law_first_signs" = some (.ref a_wfirst_signs)
  a_wcompared : Addr
  d_wcompared : FuncData
  F_wcompared : Fun K "_law_compared" "_law_compared" s_wcompared a_wcompared d_wcompared
  b_wcompared : Binds K d_wcompared ["pool", "rows", "letters"] []
  m_wcompared : mg "_law_compared" = some (.ref a_wcompared)
  a_wspec : Addr
  d_wspec : FuncData
  F_wspec : Fun K "_law_spec" "_law_spec" s_wspec a_wspec d_wspec
  b_wspec : Binds K d_wspec ["pool", "most_rows"] []
  m_wspec : mg "_law_spec" = some (.ref a_wspec)
  a_wquestion : Addr
  d_wquestion : FuncData
  F_wquestion : Fun K "_law_question" "_law_question" s_wquestion a_wquestion d_wquestion
  b_wquestion : Binds K d_wquestion ["spec"] []
  m_wquestion : mg "_law_question" = some (.ref a_wquestion)
  a_wothers : Addr
  d_wothers : FuncData
  F_wothers : Fun K "_law_others" "_law_others" s_wothers a_wothers d_wothers
  b_wothers : Binds K d_wothers ["rows", "lot"] []
  m_wothers : mg "_law_others" = some (.ref a_wothers)
  a_wlot : Addr
  d_wlot : FuncData
  F_wlot : Fun K "_law_lot" "_law_lot" s_wlot a_wlot d_wlot
  b_wlot : Binds K d_wlot ["pool", "rows"] []
  m_wlot : mg "_law_lot" = some (.ref a_wlot)
  a_wplaced : Addr
  d_wplaced : FuncData
  F_wplaced : Fun K "_law_placed" "_law_placed" s_wplaced a_wplaced d_wplaced
  b_wplaced : Binds K d_wplaced ["rows", "lot", "ahead", "other"] []
  m_wplaced : mg "_law_placed" = some (.ref a_wplaced)
  a_wgoes : Addr
  d_wgoes : FuncData
  F_wgoes : Fun K "_law_goes" "_law_goes" s_wgoes a_wgoes d_wgoes
  b_wgoes : Binds K d_wgoes ["ended", "column"] []
  m_wgoes : mg "_law_goes" = some (.ref a_wgoes)
  a_wparted : Addr
  d_wparted : FuncData
  F_wparted : Fun K "_law_parted" "_law_parted" s_wparted a_wparted d_wparted
  b_wparted : Binds K d_wparted ["spec", "lot", "first", "second"] []
  m_wparted : mg "_law_parted" = some (.ref a_wparted)
  a_wdrawn_words : Addr
  d_wdrawn_words : FuncData
  F_wdrawn_words : Fun K "_law_drawn_words" "_law_drawn_words" s_wdrawn_words a_wdrawn_words d_wdrawn_words
  b_wdrawn_words : Binds K d_wdrawn_words ["pool", "rows", "letters", "most"] []
  m_wdrawn_words : mg "_law_drawn_words" = some (.ref a_wdrawn_words)
  a_wall_words : Addr
  d_wall_words : FuncData
  F_wall_words : Fun K "_law_all_words" "_law_all_words" s_wall_words a_wall_words d_wall_words
  b_wall_words : Binds K d_wall_words ["rows", "lot", "told", "other"] []
  m_wall_words : mg "_law_all_words" = some (.ref a_wall_words)
  a_ware_words : Addr
  d_ware_words : FuncData
  F_ware_words : Fun K "_law_are_words" "_law_are_words" s_ware_words a_ware_words d_ware_words
  b_ware_words : Binds K d_ware_words ["many", "letters", "thing"] []
  m_ware_words : mg "_law_are_words" = some (.ref a_ware_words)
  a_law : Addr
  d_law : FuncData
  F_law : Fun K "law" "law" s_law a_law d_law
  b_law : Binds K d_law ["script"] []
  m_law : mg "law" = some (.ref a_law)
  C_Question : Addr
  cl_Question : Cls K C_Question
  mC_Question : mg "Question" = some (.ref C_Question)
  M_Question : Mk K C_Question a_Question_init
  n_Question_rows : NoAttr K C_Question "rows"
  n_Question_letters : NoAttr K C_Question "letters"
  n_Question_table : NoAttr K C_Question "table"
  n_Question_kept : NoAttr K C_Question "kept"
  C_Split : Addr
  me_Split_open_columns : Meth K C_Split "open_columns" a_Split_open_columns
  me_Split_leads_of : Meth K C_Split "leads_of" a_Split_leads_of
  me_Split_after : Meth K C_Split "after" a_Split_after
  me_Split_meets : Meth K C_Split "meets" a_Split_meets
  me_Split_unlike_ones : Meth K C_Split "unlike_ones" a_Split_unlike_ones
  me_Split_goals_of : Meth K C_Split "goals_of" a_Split_goals_of
  me_Split_can_part : Meth K C_Split "can_part" a_Split_can_part
  me_Split_partable_pairs : Meth K C_Split "partable_pairs" a_Split_partable_pairs
  me_Split_numbers_of : Meth K C_Split "numbers_of" a_Split_numbers_of
  me_Split_other_words : Meth K C_Split "other_words" a_Split_other_words
  me_Split_parted : Meth K C_Split "parted" a_Split_parted
  cl_Split : Cls K C_Split
  mC_Split : mg "Split" = some (.ref C_Split)
  M_Split : Mk K C_Split a_Split_init
  n_Split_question : NoAttr K C_Split "question"
  n_Split_lot : NoAttr K C_Split "lot"
  n_Split_others : NoAttr K C_Split "others"
  n_Split_lot_columns : NoAttr K C_Split "lot_columns"
  n_Split_other_columns : NoAttr K C_Split "other_columns"
  n_Split_lot_gone : NoAttr K C_Split "lot_gone"
  n_Split_other_gone : NoAttr K C_Split "other_gone"
  n_Split_lot_open : NoAttr K C_Split "lot_open"
  n_Split_other_open : NoAttr K C_Split "other_open"
  n_Split_lead : NoAttr K C_Split "lead"
  n_Split_flags : NoAttr K C_Split "flags"
  n_Split_unlike : NoAttr K C_Split "unlike"
  n_Split_partable : NoAttr K C_Split "partable"
  k_GONE : mg "GONE" = some (.str "-" t_GONE)
  k_LEAST_ROWS : mg "LEAST_ROWS" = some (.int 2 t_LEAST_ROWS)
  k_LETTERS : mg "LETTERS" = some (.str "abc" t_LETTERS)
  k_MOST_LETTERS : mg "MOST_LETTERS" = some (.int 2 t_MOST_LETTERS)
  k_MOST_ROWS : mg "MOST_ROWS" = some (.int 4 t_MOST_ROWS)
  k_MOST_STANDINGS : mg "MOST_STANDINGS" = some (.int 8 t_MOST_STANDINGS)
  b_abs : mg "abs" = none
  b_all : mg "all" = none
  b_any : mg "any" = none
  b_bool : mg "bool" = none
  b_dict : mg "dict" = none
  b_enumerate : mg "enumerate" = none
  b_int : mg "int" = none
  b_isinstance : mg "isinstance" = none
  b_len : mg "len" = none
  b_list : mg "list" = none
  b_max : mg "max" = none
  b_min : mg "min" = none
  b_range : mg "range" = none
  b_set : mg "set" = none
  b_sorted : mg "sorted" = none
  b_str : mg "str" = none
  b_sum : mg "sum" = none
  b_tuple : mg "tuple" = none
  b_zip : mg "zip" = none
def Txt.Cm {K : PySem.W.Frag} {mg : Str → Option Value} (T : Txt K mg) : Nat → Addr := fun i => if i = 0 then T.C_Question else if i = 1 then T.C_Split else 0
end My
namespace My
open PySem PySem.Spec PyProof.Rows L2 DL
def sp_is_integer : DSp := sp1 fun d h P => ∃ i, d = .int i ∧ P (.bl true) h
section
variable {P : Program} {w : World} {K : PySem.W.Frag} {mg : Str → Option Value} {base : Heap}
theorem ok_is_integer (T : Txt K mg) : DFn P w K mg base 1 T.a_is_integer T.d_is_integer ["thing"] sp_is_integer := by
  refine dfn1 T.F_is_integer sc_is_integer rfl (fun cdv A outer s H E hr => ⟨_, (dss_one (ds_ret (de_and (de_callB call_dIsi (by rfl) T.b_isinstance (by decide +kernel) (da_cons (de_var 0) (da_cons (de_gTy (n := "int") (by rfl) T.b_int (by decide +kernel)) da_nil))) (de_one (de_not (de_callB call_dIsi (by rfl) T.b_isinstance (by decide +kernel) (da_cons (de_var 0) (da_cons (de_gTy (n := "bool") (by rfl) T.b_bool (by decide +kernel)) da_nil)))))))), fun p0 h Q q => ?_⟩)
  rw [show dstart ["thing"] [p0] = [some p0] from rfl]
  obtain ⟨i, rfl, q⟩ := q
  walk_at "dgo"
  exact Wk.of q
end
end My
namespace My
open PySem PySem.Spec PyProof.Rows L2 DL
def sp_is_within : DSp := sp3 fun t l m h P => ∃ i j k, t = .int i ∧ l = .int j ∧ m = .int k ∧ P (.bl (decide (j ≤ i) && decide (i ≤ k))) h
section
variable {P : Program} {w : World} {K : PySem.W.Frag} {mg : Str → Option Value} {base : Heap}
theorem ok_is_within (T : Txt K mg) : DFn P w K mg base 2 T.a_is_within T.d_is_within ["thing", "least", "most"] sp_is_within := by
  refine dfn3 T.F_is_within sc_is_within rfl (fun cdv A outer s H E hr => ⟨_, (dss_one (ds_ret (de_and (de_call (ok_is_integer T) (hr.mono (by decide)) (by rfl) T.m_is_integer T.F_is_integer.kp T.b_is_integer (da_cons (de_var 0) da_nil)) (de_one (de_chain op_dLe op_dLe (de_var 1) (de_var 0) (de_var 2)))))), fun p0 p1 p2 h Q q => ?_⟩)
  rw [show dstart ["thing", "least", "most"] [p0, p1, p2] = [some p0, some p1, some p2] from rfl]
  obtain ⟨i, j, k, rfl, rfl, rfl, q⟩ := q
  walk_at "dgo"
  refine ⟨i, rfl, ?_⟩
  walk_at "dgo"
  cases e : decide (j ≤ i) <;> rw [e] at q <;> walk_at "dgo"
  · exact Wk.of q
  · exact Wk.of q
end
end My
namespace My
open PySem PySem.Spec PyProof.Rows L2 DL
def sp_is_pair : DSp := sp1 fun t h P => ∃ ds, t = .tup ds ∧ P (.bl (decide (ds.length = 2))) h
section
variable {P : Program} {w : World} {K : PySem.W.Frag} {mg : Str → Option Value} {base : Heap}
theorem ok_is_pair (T : Txt K mg) : DFn P w K mg base 1 T.a_is_pair T.d_is_pair ["thing"] sp_is_pair := by
  refine dfn1 T.F_is_pair sc_is_pair rfl (fun cdv A outer s H E hr => ⟨_, (dss_one (ds_ret (de_and (de_callB call_dIsi (by rfl) T.b_isinstance (by decide +kernel) (da_cons (de_var 0) (da_cons (de_gTy (n := "tuple") (by rfl) T.b_tuple (by decide +kernel)) da_nil))) (de_one (de_cmp (op_dEqA hr.units) (de_callB call_dLen (by rfl) T.b_len (by decide +kernel) (da_cons (de_var 0) da_nil)) de_int (nomark _)))))), fun p0 h Q q => ?_⟩)
  rw [show dstart ["thing"] [p0] = [some p0] from rfl]
  obtain ⟨ds, rfl, q⟩ := q
  walk_at "dgo"
  rw [show decide ((ds.length : Int) = 2) = decide (ds.length = 2) by rw [decide_eq_decide]; omega]
  exact Wk.of q
end
end My
namespace My
open PySem PySem.Spec PyProof.Rows L2 DL
def sp_is_string_of : DSp := sp2 fun t s h P => ∃ x y : Str, t = .str x ∧ s = .str y ∧ P (.bl (x.cps.toList.all fun c => decide (c ∈ y.cps.toList))) h
section
variable {P : Program} {w : World} {K : PySem.W.Frag} {mg : Str → Option Value} {base : Heap}
theorem ok_is_string_of (T : Txt K mg) : DFn P w K mg base 1 T.a_is_string_of T.d_is_string_of ["thing", "signs"] sp_is_string_of := by
  refine dfn2 T.F_is_string_of sc_is_string_of rfl (fun cdv A outer s H E hr => ⟨_, (dss_cons (ds_if (dt_not (dt_val (de_callB call_dIsi (by rfl) T.b_isinstance (by decide +kernel) (da_cons (de_var 0) (da_cons (de_gTy (n := "str") (by rfl) T.b_str (by decide +kernel)) da_nil)))))
  (dss_one (ds_ret de_bl))
  dss_nil)
  (dss_cons (ds_for PassesOwn.never rfl (di_str (de_var 0)) (dg_name (i := 2) sc_is_string_of.nd rfl (by first | exact Or.inl rfl | exact Or.inr rfl))
  (dss_one (ds_if (dt_cmp (op_dNotInA hr.units) (de_var 2) (de_var 1) (by rfl))
  (dss_one (ds_ret de_bl))
  dss_nil)))
  (dss_one (ds_ret de_bl)))), fun p0 p1 h Q q => ?_⟩)
  rw [show dstart ["thing", "signs", "sign"] [p0, p1] = [some p0, some p1, none] from rfl]
  obtain ⟨x, y, rfl, rfl, q⟩ := q
  walk_at "dgo"
  unfold DL.signs
  generalize x.cps.toList = cs at q
  have loop : ∀ (v : Option D), forGo (gNm 2) (sIf (dTest (dOp dNotInA (dVar 2) (dVar 1))) (sRet (dC (D.bl false))) sNext) (fun x => True)
      { nx := sRet (dC (D.bl true)) (ends Q), rt := Wk Q } (cs.map fun c => .str ⟨#[c]⟩) [some (D.str x), some (D.str y), v] h := by
    induction cs with
    | nil =>
      intro v
      refine ⟨trivial, ?_⟩
      walk_at "dgo"
      exact Wk.of q
    | cons c cs ih =>
      intro v
      refine ⟨trivial, ?_⟩
      walk_at "dgo"
      rw [inStr_one]
      rw [List.all_cons] at q
      cases e : decide (c ∈ y.cps.toList) <;> rw [e] at q
      · walk_at "dgo"
        exact Wk.of q
      · walk_at "dgo"
        exact ih (by rw [Bool.true_and] at q; exact q) _
  exact loop none
end
end My
namespace My
open PySem PySem.Spec PyProof.Rows L2 DL
theorem cut_abc : ∀ l : Nat, 1 ≤ l → l ≤ 2 → (cutS ("abc" : Str) none (some (l : Int))).cps.toList = (sg l).drop 1 := by
  intro l h1 h2
  rcases (show l = 1 ∨ l = 2 by omega) with rfl | rfl <;> decide +kernel
theorem abc_len : ("abc" : Str).length ≤ sizeLine := by decide +kernel
def sp_is_letters : DSp := sp2 fun t m h P => ∃ (x : Str) (l : Nat), t = .str x ∧ m = nD l ∧ 1 ≤ l ∧ l ≤ 2 ∧ P (.bl (x.cps.toList.all fun c => decide (c ∈ (sg l).drop 1))) h
section
variable {P : Program} {w : World} {K : PySem.W.Frag} {mg : Str → Option Value} {base : Heap}
theorem ok_is_letters (T : Txt K mg) : DFn P w K mg base 2 T.a_is_letters T.d_is_letters ["thing", "letters"] sp_is_letters := by
  refine dfn2 T.F_is_letters sc_is_letters rfl (fun cdv A outer s H E hr => ⟨_, (dss_one (ds_ret (de_call (ok_is_string_of T) (hr.mono (by decide)) (by rfl) T.m_is_string_of T.F_is_string_of.kp T.b_is_string_of (da_cons (de_var 0) (da_cons (de_frz (de_sl (de_gStr (by rfl) T.k_LETTERS) do_none (do_some (de_var 1)))) da_nil))))), fun p0 p1 h Q q => ?_⟩)
  rw [show dstart ["thing", "letters"] [p0, p1] = [some p0, some p1] from rfl]
  obtain ⟨x, l, rfl, rfl, l1, l2, q⟩ := q
  walk_at "dgo"
  refine ⟨abc_len, x, _, rfl, rfl, ?_⟩
  rw [cut_abc l l1 l2]
  exact Wk.of q
end
end My
namespace My
open PySem PySem.Spec PyProof.Rows L2 DL
def sp_is_ascending : DSp := sp2 fun t m h P => ∃ (xs : List Nat) (n : Nat), t = lotD xs ∧ m = nD n ∧ xs.length ≤ 80 ∧ (∀ x ∈ xs, x < n) ∧ xs.Pairwise (· < ·) ∧ P (.bl true) h
section
variable {P : Program} {w : World} {K : PySem.W.Frag} {mg : Str → Option Value} {base : Heap}
theorem ok_is_ascending (T : Txt K mg) : DFn P w K mg base 3 T.a_is_ascending T.d_is_ascending ["thing", "many"] sp_is_ascending := by
  refine dfn2 T.F_is_ascending sc_is_ascending rfl (fun cdv A outer s H E hr => ⟨_, (dss_cons (ds_if (dw_or (dt_not (dt_val (de_callB call_dIsi (by rfl) T.b_isinstance (by decide +kernel) (da_cons (de_var 0) (da_cons (de_gTy (n := "tuple") (by rfl) T.b_tuple (by decide +kernel)) da_nil))))) (dw_or1 (dt_not (dt_val (de_callB (call_dAll rfl) (by rfl) T.b_all (by decide +kernel) (da_cons (de_frz (de_lc (own := [("number", 2)]) rfl sc_is_ascending.nd (di_tup (de_var 0)) (blkOk_by (N := ["thing", "many", "number", "at"]) (sc := defScope s_is_ascending) (own := [("number", 2)]) (by decide +kernel)) (by decide) (fun _ _ _ _ _ => (dg_name (i := 2) sc_is_ascending.nd rfl (by first | exact Or.inl rfl | exact Or.inr rfl))) (fun _ _ _ _ _ => dts_nil) (fun _ _ _ _ _ => (de_call (ok_is_within T) (hr.mono (by decide)) (by rfl) T.m_is_within T.F_is_within.kp T.b_is_within (da_cons (de_var 2) (da_cons de_int (da_cons (de_op op_dSub (de_var 1) de_int) da_nil))))))) da_nil)))))).dt
  (dss_one (ds_ret de_bl))
  dss_nil)
  (dss_one (ds_ret (de_callB (call_dAll rfl) (by rfl) T.b_all (by decide +kernel) (da_cons (de_frz (de_lc (own := [("at", 3)]) rfl sc_is_ascending.nd (di_range2 (by rfl) T.b_range (da_cons de_int (da_cons (de_callB call_dLen (by rfl) T.b_len (by decide +kernel) (da_cons (de_var 0) da_nil)) da_nil))) (blkOk_by (N := ["thing", "many", "number", "at"]) (sc := defScope s_is_ascending) (own := [("at", 3)]) (by decide +kernel)) (by decide) (fun _ _ _ _ _ => (dg_name (i := 3) sc_is_ascending.nd rfl (by first | exact Or.inl rfl | exact Or.inr rfl))) (fun _ _ _ _ _ => dts_nil) (fun _ _ _ _ _ => (de_cmp op_dLt (de_ix (de_var 0) (de_op op_dSub (de_var 3) de_int)) (de_ix (de_var 0) (de_var 3)) (nomark _))))) da_nil))))), fun p0 p1 h Q q => ?_⟩)
  rw [show dstart ["thing", "many", "number", "at"] [p0, p1] = [some p0, some p1, none, none] from rfl]
  obtain ⟨xs, n, rfl, rfl, hl, hn, hp, q⟩ := q
  have := line81
  unfold lotD
  walk_at "dgo"
  refine lcA nD xs (fun _ => .bl true) rfl (fun _ _ => trivial) (fun y hy h' s R hR => ?_) (by omega) ?_
  · walk_at "dgo"
    refine ⟨_, _, _, rfl, rfl, rfl, ?_⟩
    have := hn y hy
    rw [show (decide ((0 : Int) ≤ (y : Int)) && decide ((y : Int) ≤ (n : Int) - 1)) = true by rw [decide_eq_true (by omega), decide_eq_true (by omega)]; rfl]
    exact hR
  walk_at "dgo"
  rw [List.length_map]
  refine ⟨⟨by decide, by decide, by omega, by omega⟩, ?_⟩
  rw [show ((xs.length : Int) - 1).toNat = xs.length - 1 by omega]
  refine lcA (fun (i : Nat) => .int ((1 : Int) + i)) (List.range (xs.length - 1)) (fun _ => .bl true) rfl (fun _ _ => trivial) (fun i hi h' s R hR => ?_) (by rw [List.length_range]; omega) ?_
  · have hi := List.mem_range.mp hi
    walk_at "dgo"
    rw [show (1 : Int) + (i : Int) - 1 = ((i : Nat) : Int) by omega, show (1 : Int) + (i : Int) = ((i + 1 : Nat) : Int) by omega]
    refine oAt_of (nat_at (show i < xs.length by omega)) (oAt_of (nat_at (show i + 1 < xs.length by omega)) ?_)
    walk_at "dgo"
    rw [decide_eq_true (by have := List.pairwise_iff_getElem.mp hp i (i + 1) (by omega) (by omega) (by omega); omega)]
    exact hR
  · walk_at "dgo"
    exact Wk.of q
end
end My
namespace My
open PySem PySem.Spec PyProof.Rows L2 DL
theorem abc_signs : ∀ l : Nat, 1 ≤ l → l ≤ 2 → DL.signs (("-" : Str) ++ cutS ("abc" : Str) none (some (l : Int))) = (sg l).map sgD := by
  intro l h1 h2
  have e : (("-" : Str) ++ cutS ("abc" : Str) none (some (l : Int))).cps.toList = sg l := by
    rcases (show l = 1 ∨ l = 2 by omega) with rfl | rfl <;> decide +kernel
  unfold DL.signs
  rw [e]
  rfl
theorem abc_cut_len : ∀ l : Nat, 1 ≤ l → l ≤ 2 → ("-" : Str).length + (cutS ("abc" : Str) none (some (l : Int))).length ≤ sizeLine := by
  intro l h1 h2
  rcases (show l = 1 ∨ l = 2 by omega) with rfl | rfl <;> decide +kernel
theorem flat_len {α β : Type} (S : List β) : ∀ L : List α, (L.flatMap fun _ => S).length = L.length * S.length
  | [] => by simp
  | c :: L => by rw [List.flatMap_cons, List.length_append, flat_len S L, List.length_cons, Nat.succ_mul, Nat.add_comm]
theorem cols_next (n l : Nat) : colsD (n + 1) l = .rol ((cols n (sg l)).flatMap fun y => (sg l).map fun s => encC (y ++ [s])) := by
  show D.rol ((List.flatMap _ (cols n (sg l))).map encC) = _
  rw [List.map_flatMap]
  congr 2
  funext c
  rw [List.map_map]
  rfl
def sp_columns : DSp := sp2 fun a b h P => ∃ r l : Nat, a = nD r ∧ b = nD l ∧ r ≤ 4 ∧ 1 ≤ l ∧ l ≤ 2 ∧ P (colsD r l) h
section
variable {P : Program} {w : World} {K : PySem.W.Frag} {mg : Str → Option Value} {base : Heap}
theorem ok_columns (T : Txt K mg) : DFn P w K mg base 1 T.a_columns T.d_columns ["rows", "letters"] sp_columns := by
  refine dfn2 T.F_columns sc_columns rfl (fun cdv A outer s H E hr => ⟨_, (dss_cons (ds_set (i := 2) sc_columns.nd rfl (by first | exact Or.inl rfl | exact Or.inr rfl) (de_frz (de_lst (da_cons (de_tup da_nil) da_nil))))
  (dss_cons (ds_for PassesOwn.never rfl (di_range1 (by rfl) T.b_range (da_cons (de_var 0) da_nil)) (dg_name (i := 3) sc_columns.nd rfl (by first | exact Or.inl rfl | exact Or.inr rfl))
  (dss_one (ds_frz (by rfl) (ds_setLc2 (i := 2) (own := [("column", 4), ("sign", 5)]) (vs1 := [5]) rfl sc_columns.nd rfl rfl (sw_true rfl rfl rfl (by decide +kernel)) (di_list (de_var 2)) (blkOk_by (N := ["rows", "letters", "found", "row", "column", "sign"]) (sc := defScope s_columns) (own := [("column", 4), ("sign", 5)]) (by decide +kernel)) (by decide) (by decide) (by decide) (fun _ _ _ _ _ => (dg_name (i := 4) sc_columns.nd rfl (by first | exact Or.inl rfl | exact Or.inr rfl))) (fun _ _ _ _ _ => dts_nil) (fun _ _ _ _ _ => (di_str (de_op op_dAdd (de_gStr (by rfl) T.k_GONE) (de_frz (de_sl (de_gStr (by rfl) T.k_LETTERS) do_none (do_some (de_var 1))))))) (fun _ _ _ _ _ => (dg_name (i := 5) sc_columns.nd rfl (by first | exact Or.inl rfl | exact Or.inr rfl))) (fun _ _ _ _ _ => dts_nil) (fun _ _ _ _ _ => (de_op op_dAdd (de_var 4) (de_tup (da_cons (de_var 5) da_nil))))))))
  (dss_one (ds_ret (de_var 2))))), fun p0 p1 h Q q => ?_⟩)
  rw [show dstart ["rows", "letters", "found", "row", "column", "sign"] [p0, p1] = [some p0, some p1, none, none, none, none] from rfl]
  obtain ⟨r, l, rfl, rfl, hr4, l1, l2, q⟩ := q
  have line81 := line81
  walk_at "dgo"
  refine frsh ?_
  walk_at "dgo"
  refine ⟨by omega, ?_⟩
  rw [Int.toNat_natCast]
  refine for_pre (fun (i : Nat) => .int ((0 : Int) + i)) (List.range r) rfl (fun pre σ h' => ∃ v : Option D, σ = [some (nD r), some (nD l), some (colsD pre.length l), v, none, none] ∧ h' = h) ⟨none, rfl, rfl⟩ (fun _ _ _ _ => trivial) ?_ ?_
  · rintro pre y post σ h' e ⟨v, rfl, rfl⟩ nx hnx
    have hlen : pre.length < r := by
      have := congrArg List.length e
      rw [List.length_range, List.length_append, List.length_cons] at this
      omega
    unfold colsD
    walk_at "dgo"
    refine lc2A encC (cols pre.length (sg l)) (fun _ => sg l) sgD (fun c s => encC (c ++ [s])) _ rfl (fun _ _ => trivial) (fun _ _ _ _ k => k) (fun c hc h1 s1 R hR => ?_) (fun c hc s hs h1 s1 R hR => ?_) ?_ ?_
    · walk_at "dgo"
      refine ⟨abc_len, abc_cut_len l l1 l2, ?_⟩
      rw [abc_signs l l1 l2]
      exact hR _ fun _ _ => trivial
    · have hcl := (cols_mem.mp hc).1
      unfold encC at hR ⊢
      walk_at "dgo"
      refine ⟨?_, ?_⟩
      · rw [List.length_map, sizeLine_eq]
        omega
      · rw [List.map_append] at hR
        exact hR
    · have := cols_small (l := l) (r := pre.length + 1) l2 (by omega)
      rw [flat_len]
      rw [cols_len, Nat.pow_succ, ← cols_len] at this
      omega
    · refine hnx _ _ ⟨some (.int ((0 : Int) + y)), ?_, rfl⟩
      rw [List.length_append, List.length_singleton, cols_next]
  · rintro σ h' ⟨v, rfl, rfl⟩
    rw [List.length_range]
    walk_at "dgo"
    exact Wk.of q
end
end My
namespace My
open PySem PySem.Spec PyProof.Rows L2 DL
def sp_readings : DSp := sp2 fun a b h P => ∃ r l : Nat, a = nD r ∧ b = nD l ∧ r ≤ 4 ∧ 1 ≤ l ∧ l ≤ 2 ∧ P (.rol (((cols r (sg l)).map encC).tail)) h
section
variable {P : Program} {w : World} {K : PySem.W.Frag} {mg : Str → Option Value} {base : Heap}
theorem ok_readings (T : Txt K mg) : DFn P w K mg base 2 T.a_readings T.d_readings ["rows", "letters"] sp_readings := by
  refine dfn2 T.F_readings sc_readings rfl (fun cdv A outer s H E hr => ⟨_, (dss_one (ds_ret (de_frz (de_sl (de_call (ok_columns T) (hr.mono (by decide)) (by rfl) T.m_columns T.F_columns.kp T.b_columns (da_cons (de_var 0) (da_cons (de_var 1) da_nil))) (do_some de_int) do_none)))), fun p0 p1 h Q q => ?_⟩)
  rw [show dstart ["rows", "letters"] [p0, p1] = [some p0, some p1] from rfl]
  obtain ⟨r, l, rfl, rfl, hr4, l1, l2, q⟩ := q
  walk_at "dgo"
  refine ⟨r, l, rfl, rfl, hr4, l1, l2, ?_⟩
  unfold colsD
  walk_at "dgo"
  rw [cut_one]
  exact frsh (Wk.of q)
end
end My
namespace My
open PySem PySem.Spec PyProof.Rows L2 DL
def sp_is_standing : DSp := sp3 fun a b c h P => ∃ (e : Bool × List Nat) (m wd : Nat), a = rowD e ∧ b = nD m ∧ c = nD wd ∧ e.2.length = wd ∧ wd ≤ 80 ∧ (∀ n ∈ e.2, n < m) ∧ P (.bl true) h
section
variable {P : Program} {w : World} {K : PySem.W.Frag} {mg : Str → Option Value} {base : Heap}
theorem ok_is_standing (T : Txt K mg) : DFn P w K mg base 3 T.a_is_standing T.d_is_standing ["thing", "many", "wide"] sp_is_standing := by
  refine dfn3 T.F_is_standing sc_is_standing rfl (fun cdv A outer s H E hr => ⟨_, (dss_cons (ds_if (dw_or (dt_not (dt_val (de_call (ok_is_pair T) (hr.mono (by decide)) (by rfl) T.m_is_pair T.F_is_pair.kp T.b_is_pair (da_cons (de_var 0) da_nil)))) (dw_or (dt_not (dt_val (de_callB call_dIsi (by rfl) T.b_isinstance (by decide +kernel) (da_cons (de_ix (de_var 0) de_int) (da_cons (de_gTy (n := "bool") (by rfl) T.b_bool (by decide +kernel)) da_nil))))) (dw_or1 (dt_not (dt_val (de_callB call_dIsi (by rfl) T.b_isinstance (by decide +kernel) (da_cons (de_ix (de_var 0) de_int) (da_cons (de_gTy (n := "tuple") (by rfl) T.b_tuple (by decide +kernel)) da_nil)))))))).dt
  (dss_one (ds_ret de_bl))
  dss_nil)
  (dss_one (ds_ret (de_and (de_cmp (op_dEqA hr.units) (de_callB call_dLen (by rfl) T.b_len (by decide +kernel) (da_cons (de_ix (de_var 0) de_int) da_nil)) (de_var 2) (nomark _)) (de_one (de_callB (call_dAll rfl) (by rfl) T.b_all (by decide +kernel) (da_cons (de_frz (de_lc (own := [("later", 3)]) rfl sc_is_standing.nd (di_tup (de_ix (de_var 0) de_int)) (blkOk_by (N := ["thing", "many", "wide", "later"]) (sc := defScope s_is_standing) (own := [("later", 3)]) (by decide +kernel)) (by decide) (fun _ _ _ _ _ => (dg_name (i := 3) sc_is_standing.nd rfl (by first | exact Or.inl rfl | exact Or.inr rfl))) (fun _ _ _ _ _ => dts_nil) (fun _ _ _ _ _ => (de_call (ok_is_within T) (hr.mono (by decide)) (by rfl) T.m_is_within T.F_is_within.kp T.b_is_within (da_cons (de_var 3) (da_cons de_int (da_cons (de_op op_dSub (de_var 1) de_int) da_nil))))))) da_nil))))))), fun p0 p1 p2 h Q q => ?_⟩)
  rw [show dstart ["thing", "many", "wide", "later"] [p0, p1, p2] = [some p0, some p1, some p2, none] from rfl]
  obtain ⟨e, m, wd, rfl, rfl, rfl, hl, hw, hm, q⟩ := q
  have line81 := line81
  unfold rowD
  walk_at "dgo"
  refine ⟨_, rfl, ?_⟩
  walk_at "dgo"
  rw [List.length_map, decide_eq_true (by rw [hl])]
  walk_at "dgo"
  refine lcA nD e.2 (fun _ => .bl true) rfl (fun _ _ => trivial) (fun n hn h' s R hR => ?_) (by omega) ?_
  · have := hm n hn
    walk_at "dgo"
    refine ⟨_, _, _, rfl, rfl, rfl, ?_⟩
    rw [decide_eq_true (by omega), decide_eq_true (by omega)]
    exact hR
  · walk_at "dgo"
    exact Wk.of q
end
end My
namespace My
open PySem PySem.Spec PyProof.Rows L2 DL
theorem nrl : ¬ (("rows" : Str) = "letters") := by decide +kernel
theorem nrt : ¬ (("rows" : Str) = "table") := by decide +kernel
theorem nrk : ¬ (("rows" : Str) = "kept") := by decide +kernel
theorem nlt : ¬ (("letters" : Str) = "table") := by decide +kernel
theorem nlk : ¬ (("letters" : Str) = "kept") := by decide +kernel
theorem ntk : ¬ (("table" : Str) = "kept") := by decide +kernel
def sp_Question_init (C : Nat → Addr) : DSp := sp4 fun a b c d h P => ∃ (q : Addr) (S : Qs), a = .ref q ∧ b = nD S.r ∧ c = nD S.l ∧ d = tblD S.tbl ∧ S.Ok ∧ h q = some (.ins (C 0) []) ∧
  ∀ k, h k = none → P .non (put (put h q (.ins (C 0) (qFs S k))) k (.dct []))
section
variable {P : Program} {w : World} {K : PySem.W.Frag} {mg : Str → Option Value} {base : Heap}
theorem ok_Question_init (T : Txt K mg) : DFn P w K mg base 4 T.a_Question_init T.d_Question_init ["self", "rows", "letters", "table"] (sp_Question_init T.Cm) := by
  refine dfn4 T.F_Question_init sc_Question_init rfl (fun cdv A outer s H E hr => ⟨_, (dss_cons (ds_if (dt_not (dt_val (de_call (ok_is_within T) (hr.mono (by decide)) (by rfl) T.m_is_within T.F_is_within.kp T.b_is_within (da_cons (de_var 1) (da_cons (de_gInt (by rfl) T.k_LEAST_ROWS) (da_cons (de_gInt (by rfl) T.k_MOST_ROWS) da_nil))))))
  (dss_one ds_never)
  dss_nil)
  (dss_cons (ds_if (dt_not (dt_val (de_call (ok_is_within T) (hr.mono (by decide)) (by rfl) T.m_is_within T.F_is_within.kp T.b_is_within (da_cons (de_var 2) (da_cons de_int (da_cons (de_gInt (by rfl) T.k_MOST_LETTERS) da_nil))))))
  (dss_one ds_never)
  dss_nil)
  (dss_cons (ds_if (dw_or (dt_not (dt_val (de_callB call_dIsi (by rfl) T.b_isinstance (by decide +kernel) (da_cons (de_var 3) (da_cons (de_gTy (n := "tuple") (by rfl) T.b_tuple (by decide +kernel)) da_nil))))) (dw_or1 (dt_not (dt_chain op_dLe op_dLe de_int (de_callB call_dLen (by rfl) T.b_len (by decide +kernel) (da_cons (de_var 3) da_nil)) (de_gInt (by rfl) T.k_MOST_STANDINGS))))).dt
  (dss_one ds_never)
  dss_nil)
  (dss_cons (ds_set (i := 4) sc_Question_init.nd rfl (by first | exact Or.inl rfl | exact Or.inr rfl) (de_callB call_dLen (by rfl) T.b_len (by decide +kernel) (da_cons (de_call (ok_readings T) (hr.mono (by decide)) (by rfl) T.m_readings T.F_readings.kp T.b_readings (da_cons (de_var 1) (da_cons (de_var 2) da_nil))) da_nil)))
  (dss_cons (ds_if (dt_not (dt_val (de_callB (call_dAll rfl) (by rfl) T.b_all (by decide +kernel) (da_cons (de_frz (de_lc (own := [("item", 5)]) rfl sc_Question_init.nd (di_tup (de_var 3)) (blkOk_by (N := ["self", "rows", "letters", "table", "wide", "item"]) (sc := defScope s_Question_init) (own := [("item", 5)]) (by decide +kernel)) (by decide) (fun _ _ _ _ _ => (dg_name (i := 5) sc_Question_init.nd rfl (by first | exact Or.inl rfl | exact Or.inr rfl))) (fun _ _ _ _ _ => dts_nil) (fun _ _ _ _ _ => (de_call (ok_is_standing T) (hr.mono (by decide)) (by rfl) T.m_is_standing T.F_is_standing.kp T.b_is_standing (da_cons (de_var 5) (da_cons (de_callB call_dLen (by rfl) T.b_len (by decide +kernel) (da_cons (de_var 3) da_nil)) (da_cons (de_var 4) da_nil))))))) da_nil))))
  (dss_one ds_never)
  dss_nil)
  (dss_cons (ds_fld (de_var 0) (de_var 1))
  (dss_cons (ds_fld (de_var 0) (de_var 2))
  (dss_cons (ds_fld (de_var 0) (de_var 3))
  (dss_one (ds_fld (de_var 0) de_dnew)))))))))), fun p0 p1 p2 p3 h Q q => ?_⟩)
  rw [show dstart ["self", "rows", "letters", "table", "wide", "item"] [p0, p1, p2, p3] = [some p0, some p1, some p2, some p3, none, none] from rfl]
  obtain ⟨o, S, rfl, rfl, rfl, rfl, ok, ho, q⟩ := q
  obtain ⟨r2, r4, l1, l2, t1, t8, row⟩ := ok
  have line81 := line81
  have wide : (((cols S.r (sg S.l)).map encC).tail).length = (S.l + 1) ^ S.r - 1 := by rw [List.length_tail, List.length_map, cols_len, sg_len l2]
  have wide2 : (S.l + 1) ^ S.r - 1 ≤ 80 := by
    have := cols_small l2 r4
    rw [cols_len, sg_len l2] at this
    omega
  unfold tblD
  walk_at "dgo"
  refine ⟨_, _, _, rfl, rfl, rfl, ?_⟩
  rw [show (decide ((2 : Int) ≤ (S.r : Int)) && decide ((S.r : Int) ≤ 4)) = true from bd (by omega) (by omega)]
  walk_at "dgo"
  refine ⟨_, _, _, rfl, rfl, rfl, ?_⟩
  rw [show (decide ((1 : Int) ≤ (S.l : Int)) && decide ((S.l : Int) ≤ 2)) = true from bd (by omega) (by omega)]
  walk_at "dgo"
  rw [List.length_map, show decide ((1 : Int) ≤ (S.tbl.length : Int)) = true from decide_eq_true (by omega), show decide ((S.tbl.length : Int) ≤ 8) = true from decide_eq_true (by omega)]
  walk_at "dgo"
  refine ⟨S.r, S.l, rfl, rfl, r4, l1, l2, ?_⟩
  walk_at "dgo"
  rw [wide]
  refine lcA rowD S.tbl (fun _ => .bl true) rfl (fun _ _ => trivial) (fun e he h' s R hR => ?_) (by omega) ?_
  · obtain ⟨e1, e2⟩ := row e he
    walk_at "dgo"
    exact ⟨e, S.tbl.length, _, rfl, by rw [List.length_map], rfl, e1, wide2, e2, hR⟩
  walk_at "dgo"
  refine insAt_of ho ⟨⟨T.cl_Question, T.n_Question_rows⟩, by decide, ?_⟩
  refine insAt_of put_same ⟨⟨T.cl_Question, T.n_Question_letters⟩, by simp [putA], ?_⟩
  refine insAt_of put_same ⟨⟨T.cl_Question, T.n_Question_table⟩, by simp [putA, if_neg nrl], ?_⟩
  intro k nk
  have nko : k ≠ o := fun z => by rw [z, put_same] at nk; cases nk
  rw [put_ne nko, put_ne nko, put_ne nko] at nk
  refine insAt_of (by rw [put_ne nko.symm]; exact put_same) ⟨⟨T.cl_Question, T.n_Question_kept⟩, by simp [putA, if_neg nrl, if_neg nrt, if_neg nlt], ?_⟩
  have qq := q k nk
  simp only [putA, if_neg nrl, if_neg nrt, if_neg nlt, if_neg nrk, if_neg nlk, if_neg ntk, put_put]
  rw [put_swap (a := k) (b := o) nko, put_put]
  exact Wk.of qq
end
end My
namespace My
open PySem PySem.Spec PyProof.Rows L2 DL
/-- the key, the value of a numbered item -/
def kfN : D → D
  | .tup [_, y] => y
  | _ => .non
def vfN : D → D
  | .tup [i, _] => i
  | _ => .non
theorem numTbl_at (r l i : Nat) : (numTbl r l)[i]? = (((cols r (sg l)).tail)[i]?).map fun c => (encC c, nD i) := by
  unfold numTbl
  rw [List.getElem?_map, List.getElem?_zipIdx]
  cases ((cols r (sg l)).tail)[i]? with
  | none => rfl
  | some c => simp
theorem numTbl_made (r l : Nat) : (DL.numbered (((cols r (sg l)).map encC).tail)).map (fun x => (kfN x, vfN x)) = numTbl r l := by
  refine List.ext_getElem? fun i => ?_
  rw [numTbl_at, List.getElem?_map]
  cases e : (DL.numbered (((cols r (sg l)).map encC).tail))[i]? with
  | none =>
    have h := List.getElem?_eq_none_iff.mp e
    rw [numbered_length, List.length_tail, List.length_map, ← List.length_tail] at h
    rw [List.getElem?_eq_none h]
    rfl
  | some d =>
    obtain ⟨x, ex, rfl⟩ := numbered_get e
    rw [← List.map_tail, List.getElem?_map] at ex
    obtain ⟨c, ec, rfl⟩ := Option.map_eq_some_iff.mp ex
    rw [ec]
    rfl
theorem tail_at {l : Nat} (hl : l ≤ 2) {r i : Nat} {c : List Nat} (h : ((cols r (sg l)).tail)[i]? = some c) : i + 1 = val (l + 1) c := by
  rw [List.getElem?_tail] at h
  exact cols_val hl h
theorem numTbl_keys {l : Nat} (hl : l ≤ 2) (r : Nat) : ((numTbl r l).map (·.1)).Nodup := by
  refine List.pairwise_iff_getElem.mpr fun i j hi hj hij e => ?_
  have len : (numTbl r l).length = ((cols r (sg l)).tail).length := by unfold numTbl; rw [List.length_map, List.length_zipIdx]
  rw [List.length_map] at hi hj
  have ei : (numTbl r l)[i]? = some ((numTbl r l)[i]) := List.getElem?_eq_getElem hi
  have ej : (numTbl r l)[j]? = some ((numTbl r l)[j]) := List.getElem?_eq_getElem hj
  rw [List.getElem_map, List.getElem_map] at e
  rw [len] at hi hj
  have e1 := List.getElem?_eq_getElem hi
  have e2 := List.getElem?_eq_getElem hj
  rw [numTbl_at, e1] at ei
  rw [numTbl_at, e2] at ej
  rw [← Option.some.inj ei, ← Option.some.inj ej] at e
  have e4 := encC_inj e
  have h1 := tail_at hl e1
  have h2 := tail_at hl e2
  rw [e4, ← h2] at h1
  omega
theorem keysOf_signs : ∀ c : List Nat, keysOf (c.map sgD) = some (c.map fun x => NestedKey.text ⟨#[x]⟩)
  | [] => rfl
  | x :: r => by
    rw [List.map_cons, DL.keysOf, keysOf_signs r]
    rfl
theorem depth_signs : ∀ c : List Nat, NestedKey.depthAll (c.map fun x => NestedKey.text ⟨#[x]⟩) = 0
  | [] => rfl
  | x :: r => by
    rw [List.map_cons, NestedKey.depthAll, depth_signs r]
    rfl
theorem key_col (c : List Nat) : isKey (encC c) := by
  refine ⟨.tup (c.map fun x => NestedKey.text ⟨#[x]⟩), ?_, ?_⟩
  · unfold encC
    rw [DL.keyOf, keysOf_signs]
    rfl
  · rw [NestedKey.depth, depth_signs]
    decide
/-- what else may be kept by a question -/
def Extra (C : Nat → Addr) (S : Qs) (k : Addr) (x v : D) : Prop := False
/-- how many of these there may be -/
theorem extra_keys {C : Nat → Addr} {S : Qs} {k : Addr} : ∃ ks : List D, ks.length ≤ 100 ∧ ∀ x v, Extra C S k x v → x ∈ ks := ⟨[], Nat.zero_le _, fun x v h => h.elim⟩
theorem extra_str {C : Nat → Addr} {S : Qs} {k : Addr} {x : Str} {v : D} (h : Extra C S k (.str x) v) : False := h
/-- what may be kept -/
structure KeptOk (C : Nat → Addr) (S : Qs) (k : Addr) (kvs : List (D × D)) : Prop where
  nd : (kvs.map (·.1)).Nodup
  at_ : ∀ p ∈ kvs, (p.1 = .str "numbers" ∧ p.2 = numD S) ∨ (∃ lot ∈ allLots 4, p.1 = splitKey lot ∧ IsSplit C S k lot p.2) ∨ Extra C S k p.1 p.2
theorem KeptOk.len {C : Nat → Addr} {S : Qs} {k : Addr} {kvs : List (D × D)} (q : KeptOk C S k kvs) : kvs.length < sizeLine := by
  obtain ⟨ks, hk, hx⟩ := extra_keys (C := C) (S := S) (k := k)
  have h := nodup_le (ys := .str "numbers" :: ((allLots 4).map splitKey ++ ks)) q.nd fun x hx' => by
    obtain ⟨p, hp, rfl⟩ := List.mem_map.mp hx'
    rcases q.at_ p hp with ⟨h, _⟩ | ⟨lot, hl, h, _⟩ | h
    · rw [h]; exact List.mem_cons_self
    · rw [h]; exact List.mem_cons_of_mem _ (List.mem_append_left _ (List.mem_map.mpr ⟨lot, hl, rfl⟩))
    · exact List.mem_cons_of_mem _ (List.mem_append_right _ (hx _ _ h))
  rw [List.length_map, List.length_cons, List.length_append, List.length_map, show (allLots 4).length = 16 from rfl] at h
  have := line1000
  omega
theorem KeptOk.put {C : Nat → Addr} {S : Qs} {k : Addr} {kvs : List (D × D)} (q : KeptOk C S k kvs) {x v : D} (e : dlook kvs x = none) (hv : (x = .str "numbers" ∧ v = numD S) ∨ (∃ lot ∈ allLots 4, x = splitKey lot ∧ IsSplit C S k lot v) ∨ Extra C S k x v) : KeptOk C S k (dput kvs x v) := by
  rw [dput_new e]
  refine ⟨?_, fun p hp => ?_⟩
  · rw [List.map_append, List.nodup_append]
    refine ⟨q.nd, by simp, fun a ha b hb => ?_⟩
    rw [List.map_cons, List.map_nil, List.mem_singleton] at hb
    subst hb
    rintro rfl
    obtain ⟨p, hp, hp2⟩ := List.mem_map.mp ha
    unfold dlook at e
    rw [Option.map_eq_none_iff, List.find?_eq_none] at e
    exact e p hp (decide_eq_true hp2)
  · rcases List.mem_append.mp hp with h | h
    · exact q.at_ p h
    · rw [List.mem_singleton.mp h]
      exact hv
theorem splitKey_inj {a b : List Nat} (h : splitKey a = splitKey b) : a = b := by
  unfold splitKey lotD at h
  injection h with h
  injection h with _ h
  injection h with h
  injection h with h
  have inj : ∀ {x y : Nat}, nD x = nD y → x = y := fun {x y} e => by
    injection e with e
    exact Int.ofNat.inj e
  induction a generalizing b with
  | nil => cases b with
    | nil => rfl
    | cons _ _ => simp at h
  | cons x r ih => cases b with
    | nil => simp at h
    | cons y s =>
      rw [List.map_cons, List.map_cons] at h
      injection h with h1 h2
      rw [inj h1, ih h2]
theorem key_sp (lot : List Nat) : isKey (splitKey lot) := by
  have hk : ∀ l : List Nat, keysOf (l.map nD) = some (l.map fun (n : Nat) => NestedKey.num (n : Int)) := fun l => by
    induction l with
    | nil => rfl
    | cons x r ih => rw [List.map_cons, DL.keysOf, ih]; rfl
  have hd : ∀ l : List Nat, NestedKey.depthAll (l.map fun (n : Nat) => NestedKey.num (n : Int)) = 0 := fun l => by
    induction l with
    | nil => rfl
    | cons x r ih => rw [List.map_cons, NestedKey.depthAll, ih]; rfl
  refine ⟨.tup [.text "split", .tup (lot.map fun (n : Nat) => NestedKey.num (n : Int))], ?_, ?_⟩
  · unfold splitKey lotD
    rw [DL.keyOf, DL.keysOf, DL.keysOf, DL.keysOf, DL.keyOf, DL.keyOf, hk]
    rfl
  · rw [NestedKey.depth, NestedKey.depthAll, NestedKey.depthAll, NestedKey.depthAll, NestedKey.depth, NestedKey.depth, hd]
    decide
theorem kept_dlook {kvs : List (D × D)} {x v : D} (e : dlook kvs x = some v) : (x, v) ∈ kvs := by
  unfold dlook at e
  obtain ⟨p, hp, rfl⟩ := Option.map_eq_some_iff.mp e
  have h1 := List.find?_some hp
  have h2 := List.mem_of_find?_eq_some hp
  rw [← of_decide_eq_true h1]
  exact h2
/-- a question stands, its kept things at k -/
structure QAt (C : Nat → Addr) (h : DH) (S : Qs) (k : Addr) : Prop where
  ok : S.Ok
  kept : h k = some (.absd (KeptOk C S k))
theorem QAt.sub {C : Nat → Addr} {h h' : DH} {S : Qs} {k : Addr} (q : QAt C h S k) (s : Sub h h') : QAt C h' S k := ⟨q.ok, s _ _ q.kept⟩
def sp_numbers_of (C : Nat → Addr) : DSp := sp1 fun a h P => ∃ (S : Qs) (k : Addr), a = qV C S k ∧ QAt C h S k ∧ P (numD S) h
section
variable {P : Program} {w : World} {K : PySem.W.Frag} {mg : Str → Option Value} {base : Heap}
theorem ok_numbers_of (T : Txt K mg) : DFn P w K mg base 3 T.a_numbers_of T.d_numbers_of ["question"] (sp_numbers_of T.Cm) := by
  refine dfn1 T.F_numbers_of sc_numbers_of rfl (fun cdv A outer s H E hr => ⟨_, (dss_opn (dss_cons (ds_if (dt_cmp (op_dNotInA hr.units) de_str (de_fldK (K := K) (by rfl) (de_var 0)) (by rfl))
  (dss_cons (ds_set (i := 1) sc_numbers_of.nd rfl (by first | exact Or.inl rfl | exact Or.inr rfl) (de_call (ok_readings T) (hr.mono (by decide)) (by rfl) T.m_readings T.F_readings.kp T.b_readings (da_cons (de_fldK (K := K) (by rfl) (de_var 0)) (da_cons (de_fldK (K := K) (by rfl) (de_var 0)) da_nil))))
  (dss_one (ds_asg (de_frz (de_dc (own := [("number", 2), ("reading", 3)]) hr.units rfl sc_numbers_of.nd (di_enum (by rfl) T.b_enumerate (da_cons (de_var 1) da_nil)) (blkOk_by (N := ["question", "listed", "number", "reading"]) (sc := defScope s_numbers_of) (own := [("number", 2), ("reading", 3)]) (by decide +kernel)) (by decide) (fun _ _ _ _ _ => (dg_tup (n := 2) rfl (dgs_cons (dg_name (i := 2) sc_numbers_of.nd rfl (by first | exact Or.inl rfl | exact Or.inr rfl)) (dgs_cons (dg_name (i := 3) sc_numbers_of.nd rfl (by first | exact Or.inl rfl | exact Or.inr rfl)) dgs_nil)))) (fun _ _ _ _ _ => dts_nil) (fun _ _ _ _ _ => (de_var 3)) (fun _ _ _ _ _ => (de_var 2)))) (dg_sub (de_fldK (K := K) (by rfl) (de_var 0)) de_str (set_dD hr.units)))))
  dss_nil)
  (dss_one (ds_ret (de_ixD hr.units (de_fldK (K := K) (by rfl) (de_var 0)) de_str))))), fun p0 h Q q => ?_⟩)
  rw [show dstart ["question", "listed", "number", "reading"] [p0] = [some p0, none, none, none] from rfl]
  obtain ⟨S, k, rfl, qa, q⟩ := q
  obtain ⟨ok, hk⟩ := id qa
  have line81 := line81
  have hlen : ((cols S.r (sg S.l)).tail).length ≤ 80 := by
    rw [List.length_tail]
    have := cols_small ok.l2 ok.r4
    omega
  refine opn_d hk fun kvs ko => ?_
  walk_at "dgo"
  have fl : ∀ {h' : DH} {f : Str} {v : D} {R : D → Prop}, NoAttr K T.C_Question f → (qFs S k).lookup f = some v → R v → fldAt K (qV T.Cm S k) h' f R := fun {h' f v R} n l r => fld_self (qV_at (h := h')) ⟨T.cl_Question, n⟩ l r
  refine fl T.n_Question_kept (lk_kept S k) (rdct_of put_same ⟨key_str _, ?_⟩)
  cases e : dlook kvs (.str "numbers") with
  | some v =>
    walk_at "dgo"
    refine fl T.n_Question_kept (lk_kept S k) (rdct_of put_same ⟨key_str _, ?_⟩)
    rw [e]
    walk_at "dgo"
    have hv : v = numD S := by
      rcases ko.at_ _ (kept_dlook e) with ⟨_, h⟩ | ⟨lot, _, h, _⟩ | h
      · exact h
      · unfold splitKey at h; cases h
      · exact (extra_str h).elim
    rw [hv]
    exact Wk.by (abs_put hk ko) q
  | none =>
    walk_at "dgo"
    refine fl T.n_Question_rows (lk_rows S k) (fl T.n_Question_letters (lk_letters S k) ?_)
    refine ⟨S.r, S.l, rfl, rfl, ok.r4, ok.l1, ok.l2, ?_⟩
    walk_at "dgo"
    refine dcA (fun x => x) (DL.numbered (((cols S.r (sg S.l)).map encC).tail)) kfN vfN (by rw [List.map_id']) (fun _ _ => trivial) (fun x hx h' s R hR => ?_) (fun x hx => ?_) ?_ (fun L nL => ?_)
    · obtain ⟨i, hi⟩ := List.mem_iff_getElem?.mp hx
      obtain ⟨y, ey, rfl⟩ := numbered_get hi
      walk_at "dgo"
      exact hR
    · obtain ⟨i, hi⟩ := List.mem_iff_getElem?.mp hx
      obtain ⟨y, ey, rfl⟩ := numbered_get hi
      rw [← List.map_tail, List.getElem?_map] at ey
      obtain ⟨c, ec, rfl⟩ := Option.map_eq_some_iff.mp ey
      exact key_col c
    · rw [numbered_length, ← List.map_tail, List.length_map]
      omega
    · rw [numTbl_made, putAll_nodup _ _ (by rw [List.nil_append]; exact numTbl_keys ok.l2 S.r), List.nil_append, frz_newD nL]
      refine fl T.n_Question_kept (lk_kept S k) (dctAt_of put_same ⟨⟨key_str _, ko.len⟩, ?_⟩)
      refine fl T.n_Question_kept (lk_kept S k) (rdct_of put_same ⟨key_str _, ?_⟩)
      rw [dlook_dput, if_pos rfl, put_put]
      exact Wk.by (abs_put hk (ko.put e (.inl ⟨rfl, rfl⟩))) q
end
end My
namespace My
open PySem PySem.Spec PyProof.Rows L2 DL
theorem numTbl_look {l : Nat} (hl : l ≤ 2) {r : Nat} {c : List Nat} (hc : c ∈ cols r (sg l)) : dlook (numTbl r l) (encC c) = if val (l + 1) c = 0 then none else some (nD (val (l + 1) c - 1)) := by
  have hat := cols_at hl hc
  by_cases hv : val (l + 1) c = 0
  · rw [if_pos hv]
    refine dlook_none fun z => ?_
    obtain ⟨p, hp, e⟩ := List.mem_map.mp z
    obtain ⟨i, hi⟩ := List.mem_iff_getElem?.mp hp
    rw [numTbl_at] at hi
    obtain ⟨c2, e2, rfl⟩ := Option.map_eq_some_iff.mp hi
    have e3 := encC_inj e
    have := tail_at hl e2
    rw [e3] at this
    omega
  · rw [if_neg hv]
    refine dlook_at (i := val (l + 1) c - 1) (numTbl_keys hl r) ?_
    rw [numTbl_at, List.getElem?_tail, show val (l + 1) c - 1 + 1 = val (l + 1) c by omega, hat]
    rfl
theorem tbl_at (t : List (Bool × List Nat)) {st : Nat} (h : st < t.length) : atI (t.map rowD) (st : Int) = some (rowD (t.getD st (false, []))) := by
  rw [atI_n, List.getElem?_map, List.getD_eq_getElem?_getD, List.getElem?_eq_getElem h]
  rfl
theorem next_at (ns : List Nat) {v : Nat} (h : v < ns.length) : atI (ns.map nD) (v : Int) = some (nD (ns.getD v 0)) := by
  rw [atI_n, List.getElem?_map, List.getD_eq_getElem?_getD, List.getElem?_eq_getElem h]
  rfl
theorem row_of {S : Qs} (ok : S.Ok) {st : Nat} (h : st < S.tbl.length) : (S.tbl.getD st (false, [])).2.length = (S.l + 1) ^ S.r - 1 := by
  rw [List.getD_eq_getElem?_getD, List.getElem?_eq_getElem h]
  exact (ok.row _ (List.getElem_mem h)).1
def sp_read (C : Nat → Addr) : DSp := sp3 fun a b c h P => ∃ (S : Qs) (k : Addr) (st : Nat) (col : List Nat), a = qV C S k ∧ b = nD st ∧ c = encC col ∧ QAt C h S k ∧ st < S.tbl.length ∧ col ∈ cols S.r (sg S.l) ∧ P (nD (lead S st col)) h
section
variable {P : Program} {w : World} {K : PySem.W.Frag} {mg : Str → Option Value} {base : Heap}
theorem ok_read (T : Txt K mg) : DFn P w K mg base 4 T.a_read T.d_read ["question", "standing", "reading"] (sp_read T.Cm) := by
  refine dfn3 T.F_read sc_read rfl (fun cdv A outer s H E hr => ⟨_, (dss_cons (ds_set (i := 3) sc_read.nd rfl (by first | exact Or.inl rfl | exact Or.inr rfl) (de_md PySem.F.slot_dict_get PySem.F.type_dict_get (mt_dGet hr.units) (de_call (ok_numbers_of T) (hr.mono (by decide)) (by rfl) T.m_numbers_of T.F_numbers_of.kp T.b_numbers_of (da_cons (de_var 0) da_nil)) (da_cons (de_var 2) da_nil)))
  (dss_one (ds_ret (de_ifExp (dt_cmp op_dIs (de_var 3) de_non (nomark _)) (de_var 1) (de_ix (de_ix (de_ix (de_fldK (K := K) (by rfl) (de_var 0)) (de_var 1)) de_int) (de_var 3)))))), fun p0 p1 p2 h Q q => ?_⟩)
  rw [show dstart ["question", "standing", "reading", "number"] [p0, p1, p2] = [some p0, some p1, some p2, none] from rfl]
  obtain ⟨S, k, st, col, rfl, rfl, rfl, qa, hst, hc, q⟩ := q
  walk_at "dgo"
  refine ⟨S, k, rfl, qa, ?_⟩
  unfold numD
  walk_at "dgo"
  simp only [zip_maps]
  refine ⟨key_col col, ?_⟩
  rw [numTbl_look qa.ok.l2 hc]
  unfold lead at q
  by_cases hv : val (S.l + 1) col = 0
  · rw [if_pos hv] at q ⊢
    walk_at "dgo"
    exact Wk.of q
  · rw [if_neg hv] at q ⊢
    walk_at "dgo"
    refine fld_self (qV_at (C := T.Cm)) ⟨T.cl_Question, T.n_Question_table⟩ (lk_table S k) ?_
    unfold tblD
    walk_at "dgo"
    refine oAt_of (tbl_at S.tbl hst) ?_
    unfold rowD
    walk_at "dgo"
    refine oAt_of (next_at _ ?_) (Wk.of q)
    rw [row_of qa.ok hst]
    have := val_lt qa.ok.l2 hc
    omega
end
end My
namespace My
open PySem PySem.Spec PyProof.Rows L2 DL
def sp_are_words : DSp := sp3 fun a b c h P => ∃ (r l : Nat) (ws : List Str), a = nD r ∧ b = nD l ∧ c = wordsD ws ∧ Wds r l ws ∧ r ≤ 4 ∧ 1 ≤ l ∧ l ≤ 2 ∧ P (.bl true) h
section
variable {P : Program} {w : World} {K : PySem.W.Frag} {mg : Str → Option Value} {base : Heap}
theorem ok_are_words (T : Txt K mg) : DFn P w K mg base 3 T.a_are_words T.d_are_words ["many", "letters", "thing"] sp_are_words := by
  refine dfn3 T.F_are_words sc_are_words rfl (fun cdv A outer s H E hr => ⟨_, (dss_one (ds_ret (de_and (de_callB call_dIsi (by rfl) T.b_isinstance (by decide +kernel) (da_cons (de_var 2) (da_cons (de_gTy (n := "tuple") (by rfl) T.b_tuple (by decide +kernel)) da_nil))) (de_and (de_cmp (op_dEqA hr.units) (de_callB call_dLen (by rfl) T.b_len (by decide +kernel) (da_cons (de_var 2) da_nil)) (de_var 0) (nomark _)) (de_one (de_callB (call_dAll rfl) (by rfl) T.b_all (by decide +kernel) (da_cons (de_frz (de_lc (own := [("word", 3)]) rfl sc_are_words.nd (di_tup (de_var 2)) (blkOk_by (N := ["many", "letters", "thing", "word"]) (sc := defScope s_are_words) (own := [("word", 3)]) (by decide +kernel)) (by decide) (fun _ _ _ _ _ => (dg_name (i := 3) sc_are_words.nd rfl (by first | exact Or.inl rfl | exact Or.inr rfl))) (fun _ _ _ _ _ => dts_nil) (fun _ _ _ _ _ => (de_call (ok_is_letters T) (hr.mono (by decide)) (by rfl) T.m_is_letters T.F_is_letters.kp T.b_is_letters (da_cons (de_var 3) (da_cons (de_var 1) da_nil)))))) da_nil))))))), fun p0 p1 p2 h Q q => ?_⟩)
  rw [show dstart ["many", "letters", "thing", "word"] [p0, p1, p2] = [some p0, some p1, some p2, none] from rfl]
  obtain ⟨r, l, ws, rfl, rfl, rfl, wd, r4, l1, l2, q⟩ := q
  have line81 := line81
  obtain ⟨w1, w2, w3⟩ := wd
  unfold wordsD
  walk_at "dgo"
  rw [List.length_map, decide_eq_true (by omega)]
  walk_at "dgo"
  refine lcA D.str ws (fun _ => .bl true) rfl (fun _ _ => trivial) (fun z hz h' s R hR => ?_) (by omega) ?_
  · walk_at "dgo"
    refine ⟨z, l, rfl, rfl, l1, l2, ?_⟩
    rw [show (z.cps.toList.all fun c => decide (c ∈ (sg l).drop 1)) = true from List.all_eq_true.mpr fun c hc => decide_eq_true (w2 z hz c hc)]
    exact hR
  · walk_at "dgo"
    exact Wk.of q
end
end My
namespace My
open PySem PySem.Spec PyProof.Rows L2 DL
def sp_check_words : DSp := sp3 fun a b c h P => ∃ (r l : Nat) (ws : List Str), a = nD r ∧ b = nD l ∧ c = wordsD ws ∧ Wds r l ws ∧ r ≤ 4 ∧ 1 ≤ l ∧ l ≤ 2 ∧ P .non h
section
variable {P : Program} {w : World} {K : PySem.W.Frag} {mg : Str → Option Value} {base : Heap}
theorem ok_check_words (T : Txt K mg) : DFn P w K mg base 4 T.a_check_words T.d_check_words ["many", "letters", "thing"] sp_check_words := by
  refine dfn3 T.F_check_words sc_check_words rfl (fun cdv A outer s H E hr => ⟨_, (dss_one (ds_if (dt_not (dt_val (de_call (ok_are_words T) (hr.mono (by decide)) (by rfl) T.m_are_words T.F_are_words.kp T.b_are_words (da_cons (de_var 0) (da_cons (de_var 1) (da_cons (de_var 2) da_nil))))))
  (dss_one ds_never)
  dss_nil)), fun p0 p1 p2 h Q q => ?_⟩)
  rw [show dstart ["many", "letters", "thing"] [p0, p1, p2] = [some p0, some p1, some p2] from rfl]
  obtain ⟨r, l, ws, rfl, rfl, rfl, wd, r4, l1, l2, q⟩ := q
  walk_at "dgo"
  refine ⟨r, l, ws, rfl, rfl, rfl, wd, r4, l1, l2, ?_⟩
  walk_at "dgo"
  exact Wk.of q
end
end My
namespace My
open PySem PySem.Spec PyProof.Rows L2 DL
theorem numbered_zip {α : Type} (f : α → D) (c : List α) : DL.numbered (c.map f) = c.zipIdx.map fun p => .tup [.int (p.2 : Int), f p.1] := by
  refine List.ext_getElem? fun i => ?_
  unfold DL.numbered
  rw [List.getElem?_zipWith, List.getElem?_map, List.getElem?_map, List.getElem?_zipIdx, List.length_map]
  cases e : c[i]? with
  | none => simp
  | some a =>
    have hi := (List.getElem?_eq_some_iff.mp e).1
    rw [List.getElem?_range hi]
    simp
theorem sgn_dec (a b : Nat) (x : String) (h : Str.ofString x = ⟨#[b]⟩) : decide ((⟨#[a]⟩ : Str) = Str.ofString x) = decide (a = b) := by
  rw [h, decide_eq_decide]
  constructor
  · intro e
    injection e with e
    simpa using e
  · intro e; rw [e]
theorem sum_nats {α : Type} (f : α → Nat) : ∀ ys : List α, (ys.map fun y => ((f y : Nat) : Int)).sum = (((ys.map f).sum : Nat) : Int)
  | [] => rfl
  | y :: r => by rw [List.map_cons, List.map_cons, List.sum_cons, List.sum_cons, sum_nats f r]; omega
def sp_gone_in : DSp := sp1 fun a h P => ∃ c : List Nat, a = encC c ∧ c.length ≤ 4 ∧ P (nD (goneN c)) h
section
variable {P : Program} {w : World} {K : PySem.W.Frag} {mg : Str → Option Value} {base : Heap}
theorem ok_gone_in (T : Txt K mg) : DFn P w K mg base 1 T.a_gone_in T.d_gone_in ["column"] sp_gone_in := by
  refine dfn1 T.F_gone_in sc_gone_in rfl (fun cdv A outer s H E hr => ⟨_, (dss_one (ds_ret (de_callB (call_dSum rfl) (by rfl) T.b_sum (by decide +kernel) (da_cons (de_frz (de_lc (own := [("at", 1), ("sign", 2)]) rfl sc_gone_in.nd (di_enumT (by rfl) T.b_enumerate (da_cons (de_var 0) da_nil)) (blkOk_by (N := ["column", "at", "sign"]) (sc := defScope s_gone_in) (own := [("at", 1), ("sign", 2)]) (by decide +kernel)) (by decide) (fun _ _ _ _ _ => (dg_tup (n := 2) rfl (dgs_cons (dg_name (i := 1) sc_gone_in.nd rfl (by first | exact Or.inl rfl | exact Or.inr rfl)) (dgs_cons (dg_name (i := 2) sc_gone_in.nd rfl (by first | exact Or.inl rfl | exact Or.inr rfl)) dgs_nil)))) (fun _ _ _ _ _ => (dts_one (dt_cmp (op_dEqA hr.units) (de_var 2) (de_gStr (by rfl) T.k_GONE) (nomark _)))) (fun _ _ _ _ _ => (de_op op_dShl de_int (de_var 1))))) da_nil)))), fun p0 h Q q => ?_⟩)
  rw [show dstart ["column", "at", "sign"] [p0] = [some p0, none, none] from rfl]
  obtain ⟨c, rfl, hc, q⟩ := q
  have line81 := line81
  unfold encC
  walk_at "dgo"
  refine lcF (fun p : Nat × Nat => .tup [.int (p.2 : Int), sgD p.1]) c.zipIdx (fun p => .int ((2 ^ p.2 : Nat) : Int)) (fun p => decide (p.1 = 45)) (numbered_zip sgD c) (fun _ _ => trivial) (fun p hp h' s R R' hR hR' => ?_) (by rw [List.length_zipIdx]; omega) ?_
  · obtain ⟨a, i⟩ := p
    have hi : i < c.length := by
      have := List.mem_zipIdx hp
      omega
    unfold sgD
    walk_at "dgo"
    rw [show decide ((⟨#[a]⟩ : Str) = Str.ofString "-") = decide (a = 45) from sgn_dec a 45 "-" rfl]
    cases e : decide (a = 45) with
    | true =>
      walk_at "dgo"
      refine ⟨⟨by first | omega | decide, by first | omega | decide, by first | omega | decide⟩, ?_⟩
      have := hR e
      rw [show (1 : Int) * 2 ^ ((i : Int)).toNat = ((2 ^ i : Nat) : Int) by rw [Int.one_mul, Int.toNat_natCast, Int.natCast_pow]; rfl]
      exact this
    | false =>
      walk_at "dgo"
      exact hR' e
  · walk_at "dgo"
    unfold goneN at q
    rw [sum_nats] 
    exact Wk.of q
end
end My
namespace My
open PySem PySem.Spec PyProof.Rows L2 DL
def sp_Split_open_columns (C : Nat → Addr) : DSp := sp2 fun a b h P => ∃ gs : List Nat, b = natsD gs ∧ 1 ≤ gs.length ∧ gs.length ≤ 81 ∧ gs.headD 0 ≤ 15 ∧ P (natssD (opensOf gs)) h
section
variable {P : Program} {w : World} {K : PySem.W.Frag} {mg : Str → Option Value} {base : Heap}
theorem ok_Split_open_columns (T : Txt K mg) : DFn P w K mg base 1 T.a_Split_open_columns T.d_Split_open_columns ["self", "gone"] (sp_Split_open_columns T.Cm) := by
  refine dfn2 T.F_Split_open_columns sc_Split_open_columns rfl (fun cdv A outer s H E hr => ⟨_, (dss_one (ds_ret (de_frz (de_lc (own := [("ended", 2)]) rfl sc_Split_open_columns.nd (di_range1 (by rfl) T.b_range (da_cons (de_op op_dAdd (de_ix (de_var 1) de_int) de_int) da_nil)) (blkOk_by (N := ["self", "gone", "ended", "at", "now"]) (sc := defScope s_Split_open_columns) (own := [("ended", 2)]) (by decide +kernel)) (by decide) (fun _ _ _ _ _ => (dg_name (i := 2) sc_Split_open_columns.nd rfl (by first | exact Or.inl rfl | exact Or.inr rfl))) (fun _ _ _ _ _ => dts_nil) (fun _ _ _ _ _ => (de_frz (de_lc (own := [("at", 3), ("now", 4)]) rfl sc_Split_open_columns.nd (di_enum (by rfl) T.b_enumerate (da_cons (de_var 1) da_nil)) (blkOk_by (N := ["self", "gone", "ended", "at", "now"]) (own := [("at", 3), ("now", 4)]) (by rfl)) (by decide) (fun _ _ _ _ _ => (dg_tup (n := 2) rfl (dgs_cons (dg_name (i := 3) sc_Split_open_columns.nd rfl (by first | exact Or.inl rfl | exact Or.inr rfl)) (dgs_cons (dg_name (i := 4) sc_Split_open_columns.nd rfl (by first | exact Or.inl rfl | exact Or.inr rfl)) dgs_nil)))) (fun _ _ _ _ _ => (dts_one (dt_cmp (op_dEqA hr.units) (de_op op_dBand (de_var 2) (de_var 4)) (de_var 2) (nomark _)))) (fun _ _ _ _ _ => (de_var 3))))))))), fun p0 p1 h Q q => ?_⟩)
  rw [show dstart ["self", "gone", "ended", "at", "now"] [p0, p1] = [some p0, some p1, none, none, none] from rfl]
  obtain ⟨gs, rfl, h1, h2, h3, q⟩ := q
  have line81 := line81
  unfold natsD
  walk_at "dgo"
  have e0 : atI (gs.map nD) 0 = some (nD (gs.headD 0)) := by
    cases gs with
    | nil => cases h1
    | cons g r => exact DL.atI_0 _ _
  rw [e0]
  walk_at "dgo"
  refine ⟨⟨by omega, by omega⟩, ?_⟩
  rw [show ((gs.headD 0 : Nat) : Int) + 1 = ((gs.headD 0 + 1 : Nat) : Int) by omega, Int.toNat_natCast]
  refine lcA (fun (i : Nat) => .int ((0 : Int) + i)) (List.range (gs.headD 0 + 1)) (fun e => natsD ((List.range gs.length).filter fun i => decide (e &&& gs.getD i 0 = e))) rfl (fun _ _ => trivial) (fun e he h' s R hR => ?_) (by rw [List.length_range]; omega) ?_
  · walk_at "dgo"
    refine lcF (fun (i : Nat) => .tup [.int (i : Int), nD (gs.getD i 0)]) (List.range gs.length) nD (fun i => decide (e &&& gs.getD i 0 = e)) (numbered_nats gs) (fun _ _ => trivial) (fun i hi h2 s2 R2 R2' hR2 hR2' => ?_) (by rw [List.length_range]; omega) hR
    walk_at "dgo"
    rw [Int.zero_add, band_nat, nD_dec]
    cases e2 : decide (e &&& gs.getD i 0 = e) with
    | true => walk_at "dgo"; exact hR2 e2
    | false => walk_at "dgo"; exact hR2' e2
  · walk_at "dgo"
    unfold natssD opensOf at q
    rw [List.map_map] at q
    exact Wk.of q
end
end My
namespace My
open PySem PySem.Spec PyProof.Rows L2 DL
def sp_Split_leads_of (C : Nat → Addr) : DSp := sp2 fun a b h P => ∃ (S : Qs) (k : Addr) (lot : List Nat) (fs : List (Str × D)) (st : Nat), SelfAt h a (C 1) fs ∧ SF1 C S k lot fs ∧ b = nD st ∧ QAt C h S k ∧ LotOk S.r lot ∧ st < S.tbl.length ∧
  P (natssD (leadL S lot st)) h
section
variable {P : Program} {w : World} {K : PySem.W.Frag} {mg : Str → Option Value} {base : Heap}
theorem ok_Split_leads_of (T : Txt K mg) : DFn P w K mg base 5 T.a_Split_leads_of T.d_Split_leads_of ["self", "standing"] (sp_Split_leads_of T.Cm) := by
  refine dfn2 T.F_Split_leads_of sc_Split_leads_of rfl (fun cdv A outer s H E hr => ⟨_, (dss_cons (ds_set (i := 2) sc_Split_leads_of.nd rfl (by first | exact Or.inl rfl | exact Or.inr rfl) (de_lst da_nil))
  (dss_cons (ds_for PassesOwn.never rfl (di_list (de_fldK (K := K) (by rfl) (de_var 0))) (dg_name (i := 3) sc_Split_leads_of.nd rfl (by first | exact Or.inl rfl | exact Or.inr rfl))
  (dss_cons (ds_set (i := 4) sc_Split_leads_of.nd rfl (by first | exact Or.inl rfl | exact Or.inr rfl) (de_lst da_nil))
  (dss_cons (ds_for PassesOwn.never rfl (di_list (de_fldK (K := K) (by rfl) (de_var 0))) (dg_name (i := 5) sc_Split_leads_of.nd rfl (by first | exact Or.inl rfl | exact Or.inr rfl))
  (dss_cons (ds_set (i := 6) sc_Split_leads_of.nd rfl (by first | exact Or.inl rfl | exact Or.inr rfl) (de_frz (de_callTy (call_dDictOf hr.units rfl) (by rfl) T.b_dict (by decide +kernel) (da_cons (de_pur (de_op op_dAdd (de_listZip rfl (by rfl) T.b_list (by rfl) T.b_zip (da_cons (de_fldK (K := K) (by rfl) (de_var 0)) (da_cons (de_var 3) da_nil))) (de_listZip rfl (by rfl) T.b_list (by rfl) T.b_zip (da_cons (de_fldK (K := K) (by rfl) (de_var 0)) (da_cons (de_var 5) da_nil))))) da_nil))))
  (dss_one (ds_expr (de_ml PySem.F.slot_list_append PySem.F.type_list_append mt_dAppend (de_var 4) (da_cons (de_call (ok_read T) (hr.mono (by decide)) (by rfl) T.m_read T.F_read.kp T.b_read (da_cons (de_fldK (K := K) (by rfl) (de_var 0)) (da_cons (de_var 1) (da_cons (de_callTy call_dTupOf (by rfl) T.b_tuple (by decide +kernel) (da_cons (de_frz (de_lc (own := [("at", 7)]) rfl sc_Split_leads_of.nd (di_range1 (by rfl) T.b_range (da_cons (de_fldK (K := K) (by rfl) (de_fldK (K := K) (by rfl) (de_var 0))) da_nil)) (blkOk_by (N := ["self", "standing", "found", "column", "row", "other", "signs", "at"]) (sc := defScope s_Split_leads_of) (own := [("at", 7)]) (by decide +kernel)) (by decide) (fun _ _ _ _ _ => (dg_name (i := 7) sc_Split_leads_of.nd rfl (by first | exact Or.inl rfl | exact Or.inr rfl))) (fun _ _ _ _ _ => dts_nil) (fun _ _ _ _ _ => (de_ixD hr.units (de_var 6) (de_var 7))))) da_nil)) da_nil)))) da_nil))))))
  (dss_one (ds_expr (de_ml PySem.F.slot_list_append PySem.F.type_list_append mt_dAppend (de_var 2) (da_cons (de_frz (de_var 4)) da_nil)))))))
  (dss_one (ds_ret (de_frz (de_var 2)))))), fun p0 p1 h Q q => ?_⟩)
  rw [show dstart ["self", "standing", "found", "column", "row", "other", "signs", "at"] [p0, p1] = [some p0, some p1, none, none, none, none, none, none] from rfl]
  obtain ⟨S, k, lot, fs, st, sa, sf, rfl, qa, lo, hst, q⟩ := q
  obtain ⟨ok, hk⟩ := id qa
  have line81 := line81
  have hol := others_len lo
  have r4 := ok.r4
  have small1 := cols_small (l := S.l) (r := lot.length) ok.l2 (by omega)
  have small2 := cols_small (l := S.l) (r := (othersOf S.r lot).length) ok.l2 (by omega)
  walk_at "dgo"
  intro p np
  refine fld_self (sa.sub (Sub.new np)) ⟨T.cl_Split, T.n_Split_lot_columns⟩ sf.lcs ?_
  unfold colsD
  walk_at "dgo"
  refine for_pre encC (cols lot.length (sg S.l)) rfl (fun pre σ h' => ∃ v3 v4 v5 v6 : Option D, σ = [some p0, some (nD st), some (.ref p), v3, v4, v5, v6, none] ∧ h' = put h p (.lst (pre.map fun c => natsD ((othC S lot).map fun d => lead S st (placeC S.r lot c d))))) ⟨none, none, none, none, rfl, rfl⟩ (fun _ _ _ _ => trivial) ?_ ?_
  · rintro pre c post σ h' e ⟨v3, v4, v5, v6, rfl, rfl⟩ nx hnx
    have hc : c ∈ cols lot.length (sg S.l) := by rw [e]; exact List.mem_append_right _ List.mem_cons_self
    have hplen : pre.length < (cols lot.length (sg S.l)).length := by rw [e, List.length_append, List.length_cons]; omega
    walk_at "dgo"
    intro p2 np2
    have npp : p ≠ p2 := ne_none put_same np2
    have np2h : h p2 = none := (Sub.new np).free np2
    refine fld_self (sa.sub ((Sub.new np).trans (Sub.new np2))) ⟨T.cl_Split, T.n_Split_other_columns⟩ sf.ocs ?_
    unfold colsD
    walk_at "dgo"
    refine for_pre encC (cols (othersOf S.r lot).length (sg S.l)) rfl (fun pre2 σ h' => ∃ v5 v6 : Option D, σ = [some p0, some (nD st), some (.ref p), some (encC c), some (.ref p2), v5, v6, none] ∧ h' = put (put h p (.lst (pre.map fun c => natsD ((othC S lot).map fun d => lead S st (placeC S.r lot c d))))) p2 (.lst (pre2.map fun d => nD (lead S st (placeC S.r lot c d))))) ⟨v5, v6, rfl, rfl⟩ (fun _ _ _ _ => trivial) ?_ ?_
    · rintro pre2 d post2 σ h' e2 ⟨v5, v6, rfl, rfl⟩ nx2 hnx2
      have hd : d ∈ cols (othersOf S.r lot).length (sg S.l) := by rw [e2]; exact List.mem_append_right _ List.mem_cons_self
      have hplen2 : pre2.length < (cols (othersOf S.r lot).length (sg S.l)).length := by rw [e2, List.length_append, List.length_cons]; omega
      have hcl := (cols_mem.mp hc).1
      have hdl := (cols_mem.mp hd).1
      have sb : ∀ {o u}, Sub h (put (put h p o) p2 u) := fun {o u} => (Sub.new np).trans (Sub.new (by rw [put_ne npp.symm]; exact np2h))
      generalize hh : put (put h p (.lst (pre.map fun c => natsD ((othC S lot).map fun d => lead S st (placeC S.r lot c d))))) p2 (.lst (pre2.map fun d => nD (lead S st (placeC S.r lot c d)))) = h3
      have sb3 : Sub h h3 := by rw [← hh]; exact sb
      walk_at "dgo"
      refine fld_self (sa.sub sb3) ⟨T.cl_Split, T.n_Split_lot⟩ sf.lotf ?_
      unfold lotD encC
      walk_at "dgo"
      refine ⟨?_, fun q1 nq1 => ?_⟩
      · rw [pairs_length, List.length_map, List.length_map]; omega
      refine fld_self (sa.sub (sb3.trans (Sub.new nq1))) ⟨T.cl_Split, T.n_Split_others⟩ sf.others ?_
      unfold lotD
      walk_at "dgo"
      refine ⟨?_, fun q2 nq2 => ?_⟩
      · rw [pairs_length, List.length_map, List.length_map]; omega
      have nq12 : q1 ≠ q2 := ne_none put_same nq2
      refine lstAt_of (by rw [put_ne nq12]; exact put_same) (lstAt_of put_same ⟨?_, frsh ⟨(Sub.new nq1).trans (Sub.new nq2), ?_⟩⟩)
      · rw [pairs_length, pairs_length, List.length_map, List.length_map, List.length_map, List.length_map]; omega
      walk_at "dgo"
      refine ⟨(lot.zip c).map (fun p => (nD p.1, sgD p.2)) ++ ((othersOf S.r lot).zip d).map fun p => (nD p.1, sgD p.2), ?_, ?_, ?_, frshD ?_⟩
      · rw [pairs_nats, pairs_nats, List.map_append, List.map_map, List.map_map]; rfl
      · intro x hx
        rcases List.mem_append.mp hx with hx | hx
        · obtain ⟨y, _, rfl⟩ := List.mem_map.mp hx; exact key_nat _
        · obtain ⟨y, _, rfl⟩ := List.mem_map.mp hx; exact key_nat _
      · rw [List.length_append, List.length_map, List.length_map, List.length_zip, List.length_zip]; omega
      rw [putAll_nodup _ _ (by rw [List.nil_append]; exact signs_nodup (lo.asc.imp fun h => Nat.ne_of_lt h)), List.nil_append]
      refine lstAt_of (by rw [← hh]; exact put_same) ?_
      refine fld_self (sa.sub sb3) ⟨T.cl_Split, T.n_Split_question⟩ sf.question ?_
      walk_at "dgo"
      refine fld_self (sa.sub sb3) ⟨T.cl_Split, T.n_Split_question⟩ sf.question ?_
      refine fld_self (qV_at (C := T.Cm)) ⟨T.cl_Question, T.n_Question_rows⟩ (lk_rows S k) ?_
      walk_at "dgo"
      refine ⟨⟨by omega, by omega⟩, ?_⟩
      rw [Int.toNat_natCast]
      refine lcA (fun (i : Nat) => .int ((0 : Int) + i)) (List.range S.r) (fun x => sgD (sgnAt S.r lot c d x)) rfl (fun _ _ => trivial) (fun x hx h4 s4 R hR => ?_) (by rw [List.length_range]; omega) ?_
      · walk_at "dgo"
        rw [zip_maps, Int.zero_add]
        refine ⟨key_nat x, ?_⟩
        rw [show D.int ((x : Nat) : Int) = nD x from rfl, signs_look hcl.symm hdl.symm (List.mem_range.mp hx)]
        exact hR
      walk_at "dgo"
      refine ⟨S, k, st, placeC S.r lot c d, rfl, rfl, ?_, qa.sub sb3, hst, place_mem ok.l2 hc hd, ?_⟩
      · unfold encC placeC; rw [List.map_map]; rfl
      walk_at "dgo"
      refine lstAt_of (by rw [← hh]; exact put_same) ⟨by rw [List.length_map]; omega, ?_⟩
      refine hnx2 _ _ ⟨_, _, rfl, ?_⟩
      rw [← hh, put_put, List.map_append]
      rfl
    · rintro σ h' ⟨v5, v6, rfl, rfl⟩
      walk_at "dgo"
      refine lstAt_of (by rw [put_ne npp]; exact put_same) ?_
      rw [frz_new (by rw [put_ne npp.symm]; exact np2h)]
      refine lstAt_of put_same ⟨by rw [List.length_map]; omega, ?_⟩
      refine hnx _ _ ⟨_, _, _, _, rfl, ?_⟩
      rw [put_put, List.map_append]
      simp only [natsD, othC, List.map_map, List.map_cons, List.map_nil]
      rfl
  · rintro σ h' ⟨v3, v4, v5, v6, rfl, rfl⟩
    walk_at "dgo"
    rw [frz_new np]
    unfold natssD leadL at q
    rw [List.map_map] at q
    exact Wk.of q
end
end My
namespace My
open PySem PySem.Spec PyProof.Rows L2 DL
def sp_Split_after (C : Nat → Addr) : DSp := sp4 fun a b c d h P => ∃ (S : Qs) (k : Addr) (lot : List Nat) (fs : List (Str × D)) (t : Nat × Nat × Nat) (i j : Nat), SelfAt h a (C 1) fs ∧ SF3 C S k lot fs ∧ b = triD t ∧ c = nD i ∧ d = nD j ∧ S.Ok ∧ LotOk S.r lot ∧ TriOk S lot t ∧
  i < (lotC S lot).length ∧ j < (lotC S lot).length ∧ P (.rol ((aftL S lot t i j).map triD)) h
section
variable {P : Program} {w : World} {K : PySem.W.Frag} {mg : Str → Option Value} {base : Heap}
theorem ok_Split_after (T : Txt K mg) : DFn P w K mg base 1 T.a_Split_after T.d_Split_after ["self", "triple", "column", "second"] (sp_Split_after T.Cm) := by
  refine dfn4 T.F_Split_after sc_Split_after rfl (fun cdv A outer s H E hr => ⟨_, (dss_cons (ds_asg (de_var 1) (dg_tup (n := 3) rfl (dgs_cons (dg_name (i := 4) sc_Split_after.nd rfl (by first | exact Or.inl rfl | exact Or.inr rfl)) (dgs_cons (dg_name (i := 5) sc_Split_after.nd rfl (by first | exact Or.inl rfl | exact Or.inr rfl)) (dgs_cons (dg_name (i := 6) sc_Split_after.nd rfl (by first | exact Or.inl rfl | exact Or.inr rfl)) dgs_nil)))))
  (dss_cons (ds_asg (de_tup (da_cons (de_ix (de_ix (de_fldK (K := K) (by rfl) (de_var 0)) (de_var 4)) (de_var 2)) (da_cons (de_ix (de_ix (de_fldK (K := K) (by rfl) (de_var 0)) (de_var 5)) (de_var 3)) da_nil))) (dg_tup (n := 2) rfl (dgs_cons (dg_name (i := 7) sc_Split_after.nd rfl (by first | exact Or.inl rfl | exact Or.inr rfl)) (dgs_cons (dg_name (i := 8) sc_Split_after.nd rfl (by first | exact Or.inl rfl | exact Or.inr rfl)) dgs_nil))))
  (dss_one (ds_ret (de_frz (de_lc (own := [("at", 9)]) rfl sc_Split_after.nd (di_list (de_ix (de_fldK (K := K) (by rfl) (de_var 0)) (de_var 6))) (blkOk_by (N := ["self", "triple", "column", "second", "one", "other", "ended", "ahead", "beside", "at"]) (sc := defScope s_Split_after) (own := [("at", 9)]) (by decide +kernel)) (by decide) (fun _ _ _ _ _ => (dg_name (i := 9) sc_Split_after.nd rfl (by first | exact Or.inl rfl | exact Or.inr rfl))) (fun _ _ _ _ _ => dts_nil) (fun _ _ _ _ _ => (de_tup (da_cons (de_ix (de_var 7) (de_var 9)) (da_cons (de_ix (de_var 8) (de_var 9)) (da_cons (de_ix (de_fldK (K := K) (by rfl) (de_var 0)) (de_var 9)) da_nil))))))))))), fun p0 p1 p2 p3 h Q q => ?_⟩)
  rw [show dstart ["self", "triple", "column", "second", "one", "other", "ended", "ahead", "beside", "at"] [p0, p1, p2, p3] = [some p0, some p1, some p2, some p3, none, none, none, none, none, none] from rfl]
  obtain ⟨S, k, lot, fs, ⟨a, b, e⟩, i, j, sa, sf, rfl, rfl, rfl, ok, lo, tri, hi, hj, q⟩ := q
  have line81 := line81
  have hol := others_len lo
  have r4 := ok.r4
  have small2 : (othG S lot).length ≤ 81 := by
    have := cols_small (l := S.l) (r := (othersOf S.r lot).length) ok.l2 (by omega)
    unfold othG othC
    rw [List.length_map]
    exact this
  obtain ⟨ta, tb, te⟩ := tri
  unfold triD
  walk_at "dgo"
  have fl : ∀ {h' : DH} {f : Str} {v : D} {R : D → Prop}, Sub h h' → NoAttr K T.C_Split f → fs.lookup f = some v → R v → fldAt K p0 h' f R := fun {h' f v R} s n l r => fld_self (sa.sub s) ⟨T.cl_Split, n⟩ l r
  have row : ∀ st i, st < S.tbl.length → i < (lotC S lot).length → atI ((leadL S lot st).map natsD) (i : Int) = some (natsD ((leadL S lot st).getD i [])) := fun st i h1 h2 => map_at natsD (getD_some [] (by unfold leadL; rw [List.length_map]; exact h2))
  refine fl (Sub.refl h) T.n_Split_lead sf.leadf ?_
  walk_at "dgo"
  refine oAt_of (map_at (fun st => natssD (leadL S lot st)) (List.getElem?_range ta)) ?_
  unfold natssD
  walk_at "dgo"
  refine oAt_of (row a i ta hi) ?_
  refine fl (Sub.refl h) T.n_Split_lead sf.leadf ?_
  walk_at "dgo"
  refine oAt_of (map_at (fun st => natssD (leadL S lot st)) (List.getElem?_range tb)) ?_
  unfold natssD
  walk_at "dgo"
  refine oAt_of (row b j tb hj) ?_
  unfold natsD
  walk_at "dgo"
  refine fl (Sub.refl h) T.n_Split_other_open sf.oopen ?_
  unfold natssD
  walk_at "dgo"
  have eo := opens_at te
  refine oAt_of (map_at natsD eo) ?_
  have eo2 : opn2 S lot e = (List.range (othG S lot).length).filter fun i => decide (e &&& (othG S lot).getD i 0 = e) := by
    unfold opn2
    rw [List.getD_eq_getElem?_getD, eo]
    rfl
  rw [← eo2]
  unfold natsD
  walk_at "dgo"
  have hop := opens_le (othG S lot) e
  refine lcA nD (opn2 S lot e) (fun c => triD (ld S lot a i c, ld S lot b j c, gn2 S lot c)) rfl (fun _ _ => trivial) (fun c hc h1 s1 R hR => ?_) (by unfold opn2; omega) ?_
  · have hcl : c < (othG S lot).length := opens_lt hc
    have hcl2 : c < (othC S lot).length := by unfold othG at hcl; rw [List.length_map] at hcl; exact hcl
    have rl : ∀ st i, i < (lotC S lot).length → ((leadL S lot st).getD i [])[c]? = some (ld S lot st i c) := fun st i hi => by
      refine getD_some 0 ?_
      unfold leadL
      rw [List.getD_eq_getElem?_getD, List.getElem?_map, List.getElem?_eq_getElem hi]
      simpa using hcl2
    walk_at "dgo"
    refine oAt_of (map_at nD (rl a i hi)) (oAt_of (map_at nD (rl b j hj)) ?_)
    refine fl s1 T.n_Split_other_gone sf.ogone ?_
    unfold natsD
    walk_at "dgo"
    refine oAt_of (map_at nD (getD_some 0 hcl)) ?_
    exact hR
  · unfold aftL at q
    rw [List.map_map] at q
    exact Wk.of q
end
end My
namespace My
open PySem PySem.Spec PyProof.Rows L2 DL
def sp_Split_meets (C : Nat → Addr) : DSp := sp3 fun a b c h P => ∃ (kvs : List (D × D)) (ts : List (Nat × Nat × Nat)), DctIs h b kvs ∧ c = .rol (ts.map triD) ∧ ts.length ≤ 1000 ∧ P (.bl (ts.any fun t => (dlook kvs (triD t)).isSome)) h
section
variable {P : Program} {w : World} {K : PySem.W.Frag} {mg : Str → Option Value} {base : Heap}
theorem ok_Split_meets (T : Txt K mg) : DFn P w K mg base 1 T.a_Split_meets T.d_Split_meets ["self", "found", "triples"] (sp_Split_meets T.Cm) := by
  refine dfn3 T.F_Split_meets sc_Split_meets rfl (fun cdv A outer s H E hr => ⟨_, (dss_one (ds_ret (de_callB (call_dAny rfl) (by rfl) T.b_any (by decide +kernel) (da_cons (de_frz (de_lc (own := [("triple", 3)]) rfl sc_Split_meets.nd (di_list (de_var 2)) (blkOk_by (N := ["self", "found", "triples", "triple"]) (sc := defScope s_Split_meets) (own := [("triple", 3)]) (by decide +kernel)) (by decide) (fun _ _ _ _ _ => (dg_name (i := 3) sc_Split_meets.nd rfl (by first | exact Or.inl rfl | exact Or.inr rfl))) (fun _ _ _ _ _ => dts_nil) (fun _ _ _ _ _ => (de_cmp (op_dInA hr.units) (de_var 3) (de_var 1) (by rfl))))) da_nil)))), fun p0 p1 p2 h Q q => ?_⟩)
  rw [show dstart ["self", "found", "triples", "triple"] [p0, p1, p2] = [some p0, some p1, some p2, none] from rfl]
  obtain ⟨kvs, ts, hd, rfl, hl, q⟩ := q
  have line1000 := line1000
  walk_at "dgo"
  refine lcA triD ts (fun t => .bl (dlook kvs (triD t)).isSome) rfl (fun _ _ => trivial) (fun t ht h1 s1 R hR => ?_) (by omega) ?_
  · simp only [DL.gNm, DL.dOp, DL.dVar, List.getElem?_cons_zero, List.getElem?_cons_succ, List.set_cons_zero, List.set_cons_succ]
    exact in_dct (hd.sub s1) (key_tri t) hR
  · walk_at "dgo"
    rw [List.any_map]
    exact Wk.of q
end
end My
namespace My
open PySem PySem.Spec PyProof.Rows L2 DL
/-- what the found ones are, between two turns -/
structure UGood (S : Qs) (lot : List Nat) (kvs : List (D × D)) : Prop where
  nd : (kvs.map (·.1)).Nodup
  sub : ∀ x ∈ kvs.map (·.1), x ∈ (allTri S lot).map triD
  sound : ∀ t, (dlook kvs (triD t)).isSome = true → Unl S lot t.1 t.2.1 t.2.2
  base : ∀ t, TriOk S lot t → flg S t.1 ≠ flg S t.2.1 → (dlook kvs (triD t)).isSome = true
theorem UGood.len {S : Qs} {lot : List Nat} {kvs : List (D × D)} (g : UGood S lot kvs) : kvs.length ≤ (allTri S lot).length := by
  have := nodup_le g.nd g.sub
  rw [List.length_map, List.length_map] at this
  exact this
/-- how many are not found -/
noncomputable def uLeft (S : Qs) (lot : List Nat) (kvs : List (D × D)) : Nat := ((allTri S lot).filter fun t => !(dlook kvs (triD t)).isSome).length
theorem filter_less {α : Type} {p q : α → Bool} {xs : List α} (h : ∀ x ∈ xs, p x = true → q x = true) (x : α) (hx : x ∈ xs) (h1 : q x = true) (h2 : p x = false) : (xs.filter p).length < (xs.filter q).length := by
  have le : ∀ ys : List α, (∀ x ∈ ys, p x = true → q x = true) → (ys.filter p).length ≤ (ys.filter q).length := fun ys => by
    induction ys with
    | nil => intro _; exact Nat.le_refl _
    | cons y r ih =>
      intro h
      have := ih fun z hz => h z (List.mem_cons_of_mem _ hz)
      have hy := h y List.mem_cons_self
      rw [List.filter_cons, List.filter_cons]
      cases hp : p y <;> cases hq : q y <;> simp <;> first | omega | (rw [hq] at hy; exact absurd (hy hp) Bool.false_ne_true)
  obtain ⟨a, b, rfl⟩ := List.append_of_mem hx
  have l1 := le a fun z hz => h z (List.mem_append_left _ hz)
  have l2 := le b fun z hz => h z (List.mem_append_right _ (List.mem_cons_of_mem _ hz))
  rw [List.filter_append, List.filter_append, List.length_append, List.length_append, List.filter_cons, List.filter_cons, if_pos h1, if_neg (by rw [h2]; exact Bool.false_ne_true), List.length_cons]
  omega
noncomputable def uTest (S : Qs) (lot : List Nat) (kvs : List (D × D)) (t : Nat × Nat × Nat) : Bool := !(dlook kvs (triD t)).isSome && (aftL S lot t 0 0).any fun t' => (dlook kvs (triD t')).isSome
theorem flag_at {S : Qs} {st : Nat} (h : st < S.tbl.length) : atI ((flagL S).map D.bl) (st : Int) = some (.bl (flg S st)) := by
  refine map_at D.bl ?_
  unfold flagL flg
  rw [List.getElem?_map, List.getD_eq_getElem?_getD, List.getElem?_eq_getElem h]
  rfl
theorem aft_len {S : Qs} {lot : List Nat} {t : Nat × Nat × Nat} {i j : Nat} : (aftL S lot t i j).length ≤ (othG S lot).length := by
  unfold aftL
  rw [List.length_map]
  exact opens_le _ _
theorem othG_small {S : Qs} {lot : List Nat} (ok : S.Ok) (lo : LotOk S.r lot) : (othG S lot).length ≤ 27 := by
  have h1 := others_len lo
  have r4 := ok.r4
  have := lo.ne
  rw [othG_len]
  unfold othC
  rw [cols_len, sg_len ok.l2]
  exact Nat.le_trans (Nat.pow_le_pow_left (show S.l + 1 ≤ 3 by have := ok.l2; omega) _) (Nat.pow_le_pow_right (by decide) (show (othersOf S.r lot).length ≤ 3 by omega))
def sp_Split_unlike_ones (C : Nat → Addr) : DSp := sp1 fun a h P => ∃ (S : Qs) (k : Addr) (lot : List Nat) (fs : List (Str × D)), SelfAt h a (C 1) fs ∧ SF3 C S k lot fs ∧ fs.lookup ("after" : Str) = none ∧ fs.lookup ("meets" : Str) = none ∧ S.Ok ∧ LotOk S.r lot ∧
  ∀ u, UnlikeOk S lot u → P u h
section
variable {P : Program} {w : World} {K : PySem.W.Frag} {mg : Str → Option Value} {base : Heap}
theorem ok_Split_unlike_ones (T : Txt K mg) : DFn P w K mg base 2 T.a_Split_unlike_ones T.d_Split_unlike_ones ["self"] (sp_Split_unlike_ones T.Cm) := by
  refine dfn1 T.F_Split_unlike_ones sc_Split_unlike_ones rfl (fun cdv A outer s H E hr => ⟨_, (dss_cons (ds_set (i := 1) sc_Split_unlike_ones.nd rfl (by first | exact Or.inl rfl | exact Or.inr rfl) (de_callTy call_dRange (by rfl) T.b_range (by decide +kernel) (da_cons (de_callB call_dLen (by rfl) T.b_len (by decide +kernel) (da_cons (de_fldK (K := K) (by rfl) (de_var 0)) da_nil)) da_nil)))
  (dss_cons (ds_frz (by rfl) (ds_setLcN (i := 2) (own := [("one", 6), ("other", 7), ("ended", 8)]) (vs1 := [7, 8]) rfl sc_Split_unlike_ones.nd rfl rfl (sw_true rfl rfl rfl (by decide +kernel)) (di_rng (de_var 1)) (blkOk_by (N := ["self", "many", "triples", "found", "is_new", "more", "one", "other", "ended", "triple"]) (sc := defScope s_Split_unlike_ones) (own := [("one", 6), ("other", 7), ("ended", 8)]) (by decide +kernel)) (by intro c hc; simp only [List.mem_cons, List.not_mem_nil, or_false] at hc; rcases hc with e | e <;> subst e <;> exact ⟨rfl, fun _ _ => rfl⟩) (by decide) (by decide) (fun _ _ _ _ _ => (dg_name (i := 6) sc_Split_unlike_ones.nd rfl (by first | exact Or.inl rfl | exact Or.inr rfl))) (fun _ _ _ _ _ => dts_nil) (fun _ _ _ _ _ _ => (wo_cl (vs := [7, 8]) (vs1 := [8]) rfl rfl rfl (by intro c e; cases e <;> exact ⟨rfl, fun _ => rfl⟩) (di_rng (de_var 1)) (dg_name (i := 7) sc_Split_unlike_ones.nd rfl (by first | exact Or.inl rfl | exact Or.inr rfl)) dts_nil (wo_cl (vs := [8]) (vs1 := []) rfl rfl rfl (by intro c e; cases e <;> exact ⟨rfl, fun _ => rfl⟩) (di_range1 (by rfl) T.b_range (da_cons (de_op op_dAdd (de_ix (de_fldK (K := K) (by rfl) (de_var 0)) de_int) de_int) da_nil)) (dg_name (i := 8) sc_Split_unlike_ones.nd rfl (by first | exact Or.inl rfl | exact Or.inr rfl)) dts_nil (wo_item rfl rfl (de_tup (da_cons (de_var 6) (da_cons (de_var 7) (da_cons (de_var 8) da_nil))))) (by decide) (by decide)) (by decide) (by decide)))))
  (dss_cons (ds_set (i := 3) sc_Split_unlike_ones.nd rfl (by first | exact Or.inl rfl | exact Or.inr rfl) (de_dc (own := [("triple", 9)]) hr.units rfl sc_Split_unlike_ones.nd (di_list (de_var 2)) (blkOk_by (N := ["self", "many", "triples", "found", "is_new", "more", "one", "other", "ended", "triple"]) (sc := defScope s_Split_unlike_ones) (own := [("triple", 9)]) (by decide +kernel)) (by decide) (fun _ _ _ _ _ => (dg_name (i := 9) sc_Split_unlike_ones.nd rfl (by first | exact Or.inl rfl | exact Or.inr rfl))) (fun _ _ _ _ _ => (dts_one (dt_cmp (op_dNeA hr.units) (de_ix (de_fldK (K := K) (by rfl) (de_var 0)) (de_ix (de_var 9) de_int)) (de_ix (de_fldK (K := K) (by rfl) (de_var 0)) (de_ix (de_var 9) de_int)) (nomark _)))) (fun _ _ _ _ _ => (de_var 9)) (fun _ _ _ _ _ => de_bl)))
  (dss_cons (ds_set (i := 4) sc_Split_unlike_ones.nd rfl (by first | exact Or.inl rfl | exact Or.inr rfl) de_bl)
  (dss_cons (ds_while PassesOwn.never (dt_val (de_var 4))
  (dss_cons (ds_frz (by rfl) (ds_setLc (i := 5) (own := [("triple", 9)]) rfl sc_Split_unlike_ones.nd rfl rfl (sw_true rfl rfl rfl (by decide +kernel)) (di_list (de_var 2)) (blkOk_by (N := ["self", "many", "triples", "found", "is_new", "more", "one", "other", "ended", "triple"]) (sc := defScope s_Split_unlike_ones) (own := [("triple", 9)]) (by decide +kernel)) (by decide) (fun _ _ _ _ _ => (dg_name (i := 9) sc_Split_unlike_ones.nd rfl (by first | exact Or.inl rfl | exact Or.inr rfl))) (fun _ _ _ _ _ => (dts_one (dw_and (dt_cmp (op_dNotInA hr.units) (de_var 9) (de_var 3) (by rfl)) (dw_and1 (dt_val (de_meth (de_var 0) T.cl_Split T.me_Split_meets (ok_Split_meets T) (hr.mono (by decide)) T.b_Split_meets (da_cons (de_var 3) (da_cons (de_meth (de_var 0) T.cl_Split T.me_Split_after (ok_Split_after T) (hr.mono (by decide)) T.b_Split_after (da_cons (de_var 9) (da_cons de_int (da_cons de_int da_nil)))) da_nil)))))).dt)) (fun _ _ _ _ _ => (de_var 9))))
  (dss_cons (ds_expr (de_md PySem.F.slot_dict_update PySem.F.type_dict_update (mt_dUpdate hr.units) (de_var 3) (da_cons (de_frz (de_dc (own := [("triple", 9)]) hr.units rfl sc_Split_unlike_ones.nd (di_list (de_var 5)) (blkOk_by (N := ["self", "many", "triples", "found", "is_new", "more", "one", "other", "ended", "triple"]) (sc := defScope s_Split_unlike_ones) (own := [("triple", 9)]) (by decide +kernel)) (by decide) (fun _ _ _ _ _ => (dg_name (i := 9) sc_Split_unlike_ones.nd rfl (by first | exact Or.inl rfl | exact Or.inr rfl))) (fun _ _ _ _ _ => dts_nil) (fun _ _ _ _ _ => (de_var 9)) (fun _ _ _ _ _ => de_bl))) da_nil)))
  (dss_one (ds_set (i := 4) sc_Split_unlike_ones.nd rfl (by first | exact Or.inl rfl | exact Or.inr rfl) (de_cmp op_dGt (de_callB call_dLen (by rfl) T.b_len (by decide +kernel) (da_cons (de_var 5) da_nil)) de_int (nomark _)))))))
  (dss_one (ds_ret (de_frz (de_var 3))))))))), fun p0 h Q q => ?_⟩)
  rw [show dstart ["self", "many", "triples", "found", "is_new", "more", "one", "other", "ended", "triple"] [p0] = [some p0, none, none, none, none, none, none, none, none, none] from rfl]
  obtain ⟨S, k, lot, fs, sa, sf, na, nm, ok, lo, q⟩ := q
  have line1000 := line1000
  have line9000 := line9000
  have t8 := ok.t8
  have tl := allTri_len ok lo
  have og := othG_small ok lo
  have fl : ∀ {h' : DH} {f : Str} {v : D} {R : D → Prop}, Sub h h' → NoAttr K T.C_Split f → fs.lookup f = some v → R v → fldAt K p0 h' f R := fun {h' f v R} s n l r => fld_self (sa.sub s) ⟨T.cl_Split, n⟩ l r
  have flen : (flagL S).length = S.tbl.length := by unfold flagL; rw [List.length_map]
  walk_at "dgo"
  refine fl (Sub.refl h) T.n_Split_flags sf.flags ?_
  walk_at "dgo"
  rw [List.length_map, flen]
  refine ⟨⟨by omega, by omega, by omega, by omega⟩, ?_⟩
  rw [show ((S.tbl.length : Int) - 0).toNat = S.tbl.length by omega]
  refine lcNF (fun (i : Nat) => .int ((0 : Int) + i)) (List.range S.tbl.length) (fun a => (List.range S.tbl.length).flatMap fun b => (List.range ((othG S lot).headD 0 + 1)).flatMap fun e => [triD (a, b, e)]) _ rfl (fun _ _ => trivial) (fun _ _ _ _ k => k) (fun a ha => ?_) ?_ ?_
  · refine gives_clA (fun (i : Nat) => .int ((0 : Int) + i)) (List.range S.tbl.length) (fun b => (List.range ((othG S lot).headD 0 + 1)).flatMap fun e => [triD (a, b, e)]) _ (fun h1 s1 R hR => ?_) (fun _ _ _ _ k => k) (fun b hb => ?_)
    · walk_at "dgo"
      refine ⟨⟨by omega, by omega, by omega, by omega⟩, ?_⟩
      rw [show ((S.tbl.length : Int) - 0).toNat = S.tbl.length by omega]
      exact hR _ fun _ _ => trivial
    refine gives_clA (fun (i : Nat) => .int ((0 : Int) + i)) (List.range ((othG S lot).headD 0 + 1)) (fun e => [triD (a, b, e)]) _ (fun h1 s1 R hR => ?_) (fun _ _ _ _ k => k) (fun e he => ?_)
    · walk_at "dgo"
      refine fl s1 T.n_Split_other_gone sf.ogone ?_
      unfold natsD
      walk_at "dgo"
      have e0 : atI ((othG S lot).map nD) 0 = some (nD ((othG S lot).headD 0)) := by
        have hne : 0 < (othG S lot).length := by rw [othG_len]; exact cols_ne _ _
        cases e : othG S lot with
        | nil => rw [e] at hne; cases hne
        | cons g r => exact DL.atI_0 _ _
      rw [e0]
      walk_at "dgo"
      have hb : (othG S lot).headD 0 ≤ 1000000 := by
        rw [othG_head]
        have := Nat.pow_le_pow_right (show 0 < 2 by decide) (show (othersOf S.r lot).length ≤ 3 by have := others_len lo; have := lo.ne; have := ok.r4; omega)
        omega
      refine ⟨⟨by omega, by omega⟩, ?_⟩
      rw [show ((othG S lot).headD 0 : Int) + 1 = (((othG S lot).headD 0 + 1 : Nat) : Int) by omega, Int.toNat_natCast]
      exact hR _ fun _ _ => trivial
    refine gives_item _ fun h1 s1 R hR => ?_
    walk_at "dgo"
    rw [Int.zero_add, Int.zero_add, Int.zero_add]
    exact hR
  · have e : ((List.range S.tbl.length).flatMap fun a => (List.range S.tbl.length).flatMap fun b => (List.range ((othG S lot).headD 0 + 1)).flatMap fun e => [triD (a, b, e)]) = (allTri S lot).map triD := by
      unfold allTri
      simp only [List.map_flatMap, List.map_cons, List.map_nil]
    rw [e, List.length_map]
    omega
  have e : ((List.range S.tbl.length).flatMap fun a => (List.range S.tbl.length).flatMap fun b => (List.range ((othG S lot).headD 0 + 1)).flatMap fun e => [triD (a, b, e)]) = (allTri S lot).map triD := by
    unfold allTri
    simp only [List.map_flatMap, List.map_cons, List.map_nil]
  rw [e]
  walk_at "dgo"
  refine dcF triD (allTri S lot) (fun t => !decide (flg S t.1 = flg S t.2.1)) triD (fun _ => .bl true) rfl (fun _ _ => trivial) (fun t ht h1 s1 R R' hR hR' => ?_) (fun t _ _ => key_tri t) (by omega) (fun p np => ?_)
  · have tri := allTri_mem.mp ht
    unfold triD at hR ⊢
    walk_at "dgo"
    refine fl s1 T.n_Split_flags sf.flags ?_
    walk_at "dgo"
    refine oAt_of (flag_at tri.a) (fl s1 T.n_Split_flags sf.flags ?_)
    walk_at "dgo"
    refine oAt_of (flag_at tri.b) ?_
    walk_at "dgo"
    cases e : decide (flg S t.1 = flg S t.2.1) with
    | true => walk_at "dgo"; exact hR' (by rw [e]; rfl)
    | false => walk_at "dgo"; exact hR (by rw [e]; rfl)
  walk_at "dgo"
  have base0 : UGood S lot (putAll [] (((allTri S lot).filter fun t => !decide (flg S t.1 = flg S t.2.1)).map fun y => (triD y, D.bl true))) := by
    refine ⟨putAll_nd _ (by simp), fun x hx => ?_, fun t ht => ?_, fun t tri hf => ?_⟩
    · rcases putAll_mem.mp hx with h | h
      · cases h
      · rw [List.map_map] at h
        obtain ⟨y, hy, rfl⟩ := List.mem_map.mp h
        exact List.mem_map.mpr ⟨y, (List.mem_filter.mp hy).1, rfl⟩
    · rcases (putAll_some _ _ _).mp ht with h | h
      · cases h
      · rw [List.map_map] at h
        obtain ⟨y, hy, e⟩ := List.mem_map.mp h
        rw [← triD_inj e]
        have := (List.mem_filter.mp hy).2
        exact .here (by simpa using this)
    · refine (putAll_some _ _ _).mpr (.inr ?_)
      rw [List.map_map]
      exact List.mem_map.mpr ⟨t, List.mem_filter.mpr ⟨allTri_mem.mpr tri, by simpa using hf⟩, rfl⟩
  refine wh_inv (fun n σ h' => ∃ kvs b v5, σ = [some p0, some (.rng 0 (S.tbl.length : Int)), some (.rol ((allTri S lot).map triD)), some (.ref p), some (.bl b), v5, none, none, none, none] ∧ h' = put h p (.dct kvs) ∧ UGood S lot kvs ∧
    (b = false → ∀ t ∈ allTri S lot, uTest S lot kvs t = false) ∧ n = (if b = true then uLeft S lot kvs + 1 else 0)) (n := _) ⟨_, true, none, rfl, rfl, base0, (fun e => by cases e), rfl⟩ ?_
  rintro n σ h' ⟨kvs, b, v5, rfl, rfl, gd, cl, rfl⟩ nx hnx
  walk_at "dgo"
  cases b with
  | false =>
    walk_at "dgo"
    rw [frz_newD np]
    refine Wk.of (q _ ⟨kvs, rfl, fun a b e ha hb he => ⟨gd.sound _, fun u => ?_⟩⟩)
    refine unl_in (I := fun t => (dlook kvs (triD t)).isSome = true) ok gd.base (fun t tri z => ?_) a b e u ⟨ha, hb, he⟩
    obtain ⟨t', h1, h2⟩ := z
    have := cl rfl t (allTri_mem.mpr tri)
    unfold uTest at this
    rw [show ((aftL S lot t 0 0).any fun t' => (dlook kvs (triD t')).isSome) = true from List.any_eq_true.mpr ⟨t', h1, h2⟩, Bool.and_true] at this
    simpa using this
  | true =>
    walk_at "dgo"
    have sn : Sub h (put h p (.dct kvs)) := Sub.new np
    refine lcF triD (allTri S lot) triD (uTest S lot kvs) rfl (fun _ _ => trivial) (fun t ht h1 s1 R R' hR hR' => ?_) (by omega) ?_
    · have tri := allTri_mem.mp ht
      have e1 : h1 p = some (.dct kvs) := s1 _ _ put_same
      have goal : ∀ R2 : Bool → DH → Prop, R2 (uTest S lot kvs t) h1 → dAnd (dTest (dOp dNotInA (dVar 9) (dVar 3))) (dTest (dMeth T.C_Split "meets" (sp_Split_meets T.Cm) (dVar 0) (dCons (dVar 3) (dCons (dMeth T.C_Split "after" (sp_Split_after T.Cm) (dVar 0) (dCons (dVar 9) (dCons (dC (.int 0)) (dCons (dC (.int 0)) dNil)))) dNil)))) [some p0, some (.rng 0 (S.tbl.length : Int)), some (.rol ((allTri S lot).map triD)), some (.ref p), some (.bl true), v5, none, none, none, some (triD t)] h1 R2 := fun R2 hR2 => by
        unfold triD
        walk_at "dgo"
        refine rdct_of e1 ⟨key_tri t, ?_⟩
        unfold uTest at hR2
        cases e : (dlook kvs (triD t)).isSome with
        | true =>
          rw [e] at hR2
          unfold triD at e
          rw [e]
          walk_at "dgo"
          exact hR2
        | false =>
          rw [e] at hR2
          unfold triD at e
          rw [e]
          walk_at "dgo"
          have sa2 := sa.sub (sn.trans s1)
          refine recv_self sa2 nm (recv_self sa2 na ?_)
          refine ⟨S, k, lot, fs, t, 0, 0, sa2, sf, rfl, rfl, rfl, ok, lo, tri, lotC_ne _ _, lotC_ne _ _, ?_⟩
          refine ⟨kvs, aftL S lot t 0 0, .inl ⟨p, rfl, .inl e1⟩, rfl, by have := aft_len (S := S) (lot := lot) (t := t) (i := 0) (j := 0); omega, ?_⟩
          walk_at "dgo"
          exact hR2
      refine goal _ ?_
      cases e : uTest S lot kvs t with
      | true => walk_at "dgo"; exact hR e
      | false => walk_at "dgo"; exact hR' e
    walk_at "dgo"
    generalize hm : (allTri S lot).filter (uTest S lot kvs) = more
    have ml : more.length ≤ (allTri S lot).length := by rw [← hm]; exact List.length_filter_le _ _
    refine rdct_of put_same ?_
    refine dcA triD more triD (fun _ => .bl true) rfl (fun _ _ => trivial) (fun t ht h1 s1 R hR => ?_) (fun t _ => key_tri t) (by omega) (fun L nL => ?_)
    · walk_at "dgo"
      exact hR
    rw [frz_newD nL]
    refine dctAt_of put_same ?_
    dsimp only
    rw [zip_maps]
    have pl := putAll_len [] (more.map fun y => (triD y, D.bl true))
    rw [List.length_nil, List.length_map] at pl
    have gl := gd.len
    refine ⟨⟨(fun e => by cases e), ?_, by omega⟩, ?_⟩
    · by_cases hk : kvs = []
      · right
        have : more = [] := by
          rw [← hm]
          refine List.filter_eq_nil_iff.mpr fun t _ => ?_
          unfold uTest
          rw [hk]
          simp [dlook]
        rw [this]
        rfl
      · exact .inl hk
    rw [put_put, List.length_map]
    have some_iff : ∀ t, (dlook (putAll kvs (putAll [] (more.map fun y => (triD y, D.bl true)))) (triD t)).isSome = true ↔ (dlook kvs (triD t)).isSome = true ∨ t ∈ more := fun t => by
      rw [putAll_some, putAll_mem, List.map_map]
      constructor
      · rintro (h | h | h)
        · exact .inl h
        · cases h
        · obtain ⟨y, hy, e⟩ := List.mem_map.mp h
          rw [← triD_inj e]
          exact .inr hy
      · rintro (h | h)
        · exact .inl h
        · exact .inr (.inr (List.mem_map.mpr ⟨t, h, rfl⟩))
    have gd2 : UGood S lot (putAll kvs (putAll [] (more.map fun y => (triD y, D.bl true)))) := by
      refine ⟨putAll_nd _ gd.nd, fun x hx => ?_, fun t ht => ?_, fun t tri hf => (some_iff t).mpr (.inl (gd.base t tri hf))⟩
      · rcases putAll_mem.mp hx with h | h
        · exact gd.sub x h
        · rcases putAll_mem.mp h with h | h
          · cases h
          · rw [List.map_map] at h
            obtain ⟨y, hy, rfl⟩ := List.mem_map.mp h
            rw [← hm] at hy
            exact List.mem_map.mpr ⟨y, (List.mem_filter.mp hy).1, rfl⟩
      · rcases (some_iff t).mp ht with h | h
        · exact gd.sound t h
        · rw [← hm] at h
          obtain ⟨h1, h2⟩ := List.mem_filter.mp h
          unfold uTest at h2
          rw [Bool.and_eq_true] at h2
          obtain ⟨t', h3, h4⟩ := List.any_eq_true.mp h2.2
          obtain ⟨j, hj, rfl⟩ := List.mem_map.mp h3
          exact .step hj (gd.sound _ h4)
    refine hnx _ _ _ ?_ ⟨_, _, _, rfl, rfl, gd2, fun hb t ht => ?_, rfl⟩
    · rw [if_pos rfl]
      by_cases hpos : (0 : Int) < more.length
      · rw [if_pos (decide_eq_true hpos)]
        cases more with
        | nil => exact absurd hpos (by decide)
        | cons t r =>
          have ht : t ∈ (allTri S lot).filter (uTest S lot kvs) := by rw [hm]; exact List.mem_cons_self
          obtain ⟨h1, h2⟩ := List.mem_filter.mp ht
          unfold uTest at h2
          rw [Bool.and_eq_true] at h2
          have := filter_less (p := fun t' => !(dlook (putAll kvs (putAll [] ((t :: r).map fun y => (triD y, D.bl true)))) (triD t')).isSome) (q := fun t' => !(dlook kvs (triD t')).isSome) (xs := allTri S lot) (fun x _ hx => by
            cases e : (dlook kvs (triD x)).isSome with
            | false => rfl
            | true =>
              have := (some_iff x).mpr (.inl e)
              rw [this] at hx
              exact hx) t h1 h2.1 (by rw [(some_iff t).mpr (.inr List.mem_cons_self)]; rfl)
          unfold uLeft
          omega
      · rw [if_neg (by rw [decide_eq_false hpos]; exact Bool.false_ne_true)]
        omega
    · have hz : more = [] := by
        have := of_decide_eq_false hb
        exact List.length_eq_zero_iff.mp (by omega)
      have hk : putAll kvs (putAll [] (more.map fun y => (triD y, D.bl true))) = kvs := by rw [hz]; rfl
      rw [hk]
      cases e : uTest S lot kvs t with
      | false => rfl
      | true =>
        have : t ∈ more := by rw [← hm]; exact List.mem_filter.mpr ⟨ht, e⟩
        rw [hz] at this
        cases this
end
end My
namespace My
open PySem PySem.Spec PyProof.Rows L2 DL
theorem paired_lists {α : Type} {F : α → D → Prop} {G : α → List Nat → Prop} (hF : ∀ a d, F a d → ∃ ns, d = natsD ns ∧ G a ns) : ∀ {ys : List α} {ds : List D}, Paired F ys ds → ∃ g : List (List Nat), ds = g.map natsD ∧ g.length = ys.length ∧ ∀ i a, ys[i]? = some a → G a (g.getD i [])
  | [], _, .nil => ⟨[], rfl, rfl, fun i a h => by simp at h⟩
  | y :: ys, d :: ds, .cons r t => by
    obtain ⟨g, e, hl, hg⟩ := paired_lists hF t
    obtain ⟨ns, e2, h2⟩ := hF y d r
    refine ⟨ns :: g, by rw [List.map_cons, e2, e], by rw [List.length_cons, List.length_cons, hl], fun i a h => ?_⟩
    cases i with
    | zero =>
      simp at h
      subst h
      exact h2
    | succ i => exact hg i a (by simpa using h)
theorem lotC_small {S : Qs} {lot : List Nat} (ok : S.Ok) (lo : LotOk S.r lot) : (lotC S lot).length ≤ 27 := by
  have r4 := ok.r4
  have := lo.all
  unfold lotC
  rw [cols_len, sg_len ok.l2]
  exact Nat.le_trans (Nat.pow_le_pow_left (show S.l + 1 ≤ 3 by have := ok.l2; omega) _) (Nat.pow_le_pow_right (by decide) (show lot.length ≤ 3 by omega))
theorem nats_of {ms : List Int} {m : Nat} (hp : ms.Pairwise (· < ·)) (h : ∀ k ∈ ms, 0 ≤ k ∧ k < (m : Int)) : ∃ ns : List Nat, ms.map D.int = ns.map nD ∧ ns.length ≤ m ∧ ∀ x : Nat, x ∈ ns ↔ (x : Int) ∈ ms := by
  have e : ms.map D.int = (ms.map Int.toNat).map nD := by
    rw [List.map_map]
    refine List.map_congr_left fun k hk => ?_
    have := (h k hk).1
    show D.int k = D.int ((k.toNat : Nat) : Int)
    rw [Int.toNat_of_nonneg this]
  refine ⟨ms.map Int.toNat, e, ?_, fun x => ?_⟩
  · have nd : (ms.map Int.toNat).Nodup := by
      refine List.pairwise_map.mpr (List.Pairwise.imp_of_mem (fun {a b} ha hb hab e => ?_) hp)
      have := h a ha
      have := h b hb
      omega
    have := nodup_le (ys := List.range m) nd fun x hx => by
      obtain ⟨k, hk, rfl⟩ := List.mem_map.mp hx
      have := h k hk
      exact List.mem_range.mpr (by omega)
    rw [List.length_range] at this
    exact this
  · constructor
    · intro hx
      obtain ⟨k, hk, rfl⟩ := List.mem_map.mp hx
      have := h k hk
      rw [Int.toNat_of_nonneg this.1]
      exact hk
    · intro hx
      exact List.mem_map.mpr ⟨(x : Int), hx, Int.toNat_natCast x⟩
def sp_Split_goals_of (C : Nat → Addr) : DSp := sp2 fun a b h P => ∃ (S : Qs) (k : Addr) (lot : List Nat) (fs : List (Str × D)) (st : Nat), SelfAt h a (C 1) fs ∧ SF3 C S k lot fs ∧ b = nD st ∧ S.Ok ∧ LotOk S.r lot ∧ st < S.tbl.length ∧
  ∀ g, GoalsOk S lot st g → P (natssD g) h
section
variable {P : Program} {w : World} {K : PySem.W.Frag} {mg : Str → Option Value} {base : Heap}
theorem ok_Split_goals_of (T : Txt K mg) : DFn P w K mg base 1 T.a_Split_goals_of T.d_Split_goals_of ["self", "standing"] (sp_Split_goals_of T.Cm) := by
  refine dfn2 T.F_Split_goals_of sc_Split_goals_of rfl (fun cdv A outer s H E hr => ⟨_, (dss_cons (ds_set (i := 2) sc_Split_goals_of.nd rfl (by first | exact Or.inl rfl | exact Or.inr rfl) (de_callTy call_dRange (by rfl) T.b_range (by decide +kernel) (da_cons (de_callB call_dLen (by rfl) T.b_len (by decide +kernel) (da_cons (de_fldK (K := K) (by rfl) (de_var 0)) da_nil)) da_nil)))
  (dss_one (ds_ret (de_frz (de_lc (own := [("at", 3)]) rfl sc_Split_goals_of.nd (di_rng (de_var 2)) (blkOk_by (N := ["self", "standing", "many", "at", "row"]) (sc := defScope s_Split_goals_of) (own := [("at", 3)]) (by decide +kernel)) (by decide) (fun _ _ _ _ _ => (dg_name (i := 3) sc_Split_goals_of.nd rfl (by first | exact Or.inl rfl | exact Or.inr rfl))) (fun _ _ _ _ _ => dts_nil) (fun _ _ _ _ _ => (de_frz (de_sortSetX rfl (by rfl) T.b_sorted (by rfl) T.b_set (de_frz (de_lc (own := [("row", 4)]) rfl sc_Split_goals_of.nd (di_list (de_ix (de_fldK (K := K) (by rfl) (de_var 0)) (de_var 1))) (blkOk_by (N := ["self", "standing", "many", "at", "row"]) (own := [("row", 4)]) (by rfl)) (by decide) (fun _ _ _ _ _ => (dg_name (i := 4) sc_Split_goals_of.nd rfl (by first | exact Or.inl rfl | exact Or.inr rfl))) (fun _ _ _ _ _ => dts_nil) (fun _ _ _ _ _ => (de_ix (de_var 4) (de_var 3))))) (by rfl) (by rfl))))))))), fun p0 p1 h Q q => ?_⟩)
  rw [show dstart ["self", "standing", "many", "at", "row"] [p0, p1] = [some p0, some p1, none, none, none] from rfl]
  obtain ⟨S, k, lot, fs, st, sa, sf, rfl, ok, lo, hst, q⟩ := q
  have line1000 := line1000
  have og := othG_small ok lo
  rw [othG_len] at og
  have lg := lotC_small ok lo
  have t8 := ok.t8
  have fl : ∀ {h' : DH} {f : Str} {v : D} {R : D → Prop}, Sub h h' → NoAttr K T.C_Split f → fs.lookup f = some v → R v → fldAt K p0 h' f R := fun {h' f v R} s n l r => fld_self (sa.sub s) ⟨T.cl_Split, n⟩ l r
  walk_at "dgo"
  refine fl (Sub.refl h) T.n_Split_other_columns sf.ocs ?_
  unfold colsD
  walk_at "dgo"
  rw [List.length_map]
  have eoc : (cols (othersOf S.r lot).length (sg S.l)).length = (othC S lot).length := rfl
  rw [eoc]
  refine ⟨⟨by omega, by omega, by omega, by omega⟩, ?_⟩
  rw [show (((othC S lot).length : Nat) : Int) - 0 = (((othC S lot).length : Nat) : Int) by omega, Int.toNat_natCast]
  refine lcRA (fun (i : Nat) => .int ((0 : Int) + i)) (List.range (othC S lot).length) (fun c d => ∃ ns, d = natsD ns ∧ (c < (othC S lot).length → ns.length ≤ 8 ∧ ∀ x, x ∈ ns ↔ ∃ i, i < (lotC S lot).length ∧ ld S lot st i c = x)) rfl (fun _ _ => trivial) (fun c hc h1 s1 R hR => ?_) (by rw [List.length_range]; omega) (fun ds hf => ?_)
  · have hc := List.mem_range.mp hc
    walk_at "dgo"
    refine fl s1 T.n_Split_lead sf.leadf ?_
    walk_at "dgo"
    refine oAt_of (map_at (fun st => natssD (leadL S lot st)) (List.getElem?_range hst)) ?_
    unfold natssD
    walk_at "dgo"
    have ll : (leadL S lot st).length = (lotC S lot).length := by unfold leadL; rw [List.length_map]
    have rowlen : ∀ i, i < (lotC S lot).length → ((leadL S lot st).getD i []).length = (othC S lot).length := fun i hi => by
      unfold leadL
      rw [List.getD_eq_getElem?_getD, List.getElem?_map, List.getElem?_eq_getElem hi]
      simp
    have exs : leadL S lot st = (List.range (lotC S lot).length).map fun i => (leadL S lot st).getD i [] := by
      refine List.ext_getElem? fun i => ?_
      rw [List.getElem?_map]
      by_cases hi : i < (lotC S lot).length
      · rw [List.getElem?_range hi, getD_some [] (by rw [ll]; exact hi)]
        rfl
      · rw [List.getElem?_eq_none (by omega), List.getElem?_eq_none (by rw [List.length_range]; omega)]
        rfl
    refine lcA (fun i => natsD ((leadL S lot st).getD i [])) (List.range (lotC S lot).length) (fun i => .int ((ld S lot st i c : Nat) : Int)) (by have z := congrArg (List.map natsD) exs; rw [List.map_map] at z; exact z) (fun _ _ => trivial) (fun i hi h2 s2 R2 hR2 => ?_) (by rw [List.length_range]; omega) ?_
    · have hi := List.mem_range.mp hi
      unfold natsD
      walk_at "dgo"
      rw [Int.zero_add]
      exact oAt_of (map_at nD (getD_some 0 (by rw [rowlen i hi]; exact hc))) hR2
    walk_at "dgo"
    refine ⟨by rw [List.length_map, List.length_range]; omega, fun ms up mem => frsh ?_⟩
    obtain ⟨ns, e1, e2, e3⟩ := nats_of (m := S.tbl.length) up fun k hk => by
      rw [mem] at hk
      obtain ⟨i, hi, rfl⟩ := List.mem_map.mp hk
      have := (ld_lt ok hst (List.mem_range.mp hi) hc).2
      omega
    rw [e1]
    refine hR _ ⟨ns, rfl, fun _ => ⟨by omega, fun x => ?_⟩⟩
    rw [e3, mem]
    constructor
    · intro hx
      obtain ⟨i, hi, e⟩ := List.mem_map.mp hx
      exact ⟨i, List.mem_range.mp hi, by omega⟩
    · rintro ⟨i, hi, rfl⟩
      exact List.mem_map.mpr ⟨i, List.mem_range.mpr hi, rfl⟩
  · obtain ⟨g, e, hl, hg⟩ := paired_lists (fun a d h => h) hf
    rw [e]
    rw [List.length_range] at hl
    refine Wk.of (q g ⟨hl, fun c hc x => (hg c c (List.getElem?_range hc) hc).2 x, fun xs hxs => ?_⟩)
    obtain ⟨i, hi⟩ := List.mem_iff_getElem?.mp hxs
    have hil : i < (othC S lot).length := by rw [← hl]; exact (List.getElem?_eq_some_iff.mp hi).1
    have := (hg i i (List.getElem?_range hil) hil).1
    rw [List.getD_eq_getElem?_getD, hi] at this
    exact this
end
end My
namespace My
open PySem PySem.Spec PyProof.Rows L2 DL
/-- whether some column leads a pair to one that is in a table -/
noncomputable def canF (kvs : List (D × D)) (g1 g2 : List (List Nat)) : Bool := (g1.zip g2).any fun p => p.1.any fun x => p.2.any fun y => (dlook kvs (pairD (x, y))).isSome
def sp_Split_can_part (C : Nat → Addr) : DSp := sp4 fun a b c d h P => ∃ (kvs : List (D × D)) (G : List (List (List Nat))) (x y : Nat), DctIs h b kvs ∧ c = .rol (G.map natssD) ∧ d = pairD (x, y) ∧ x < G.length ∧ y < G.length ∧ (∀ g ∈ G, g.length ≤ 100 ∧ ∀ xs ∈ g, xs.length ≤ 8) ∧
  P (.bl (canF kvs (G.getD x []) (G.getD y []))) h
section
variable {P : Program} {w : World} {K : PySem.W.Frag} {mg : Str → Option Value} {base : Heap}
theorem ok_Split_can_part (T : Txt K mg) : DFn P w K mg base 1 T.a_Split_can_part T.d_Split_can_part ["self", "found", "goals", "pair"] (sp_Split_can_part T.Cm) := by
  refine dfn4 T.F_Split_can_part sc_Split_can_part rfl (fun cdv A outer s H E hr => ⟨_, (dss_cons (ds_for PassesOwn.never rfl (di_zip (by rfl) T.b_zip (da_cons (de_ix (de_var 2) (de_ix (de_var 3) de_int)) (da_cons (de_ix (de_var 2) (de_ix (de_var 3) de_int)) da_nil))) (dg_tup (n := 2) rfl (dgs_cons (dg_name (i := 4) sc_Split_can_part.nd rfl (by first | exact Or.inl rfl | exact Or.inr rfl)) (dgs_cons (dg_name (i := 5) sc_Split_can_part.nd rfl (by first | exact Or.inl rfl | exact Or.inr rfl)) dgs_nil)))
  (dss_one (ds_if (dt_val (de_callB (call_dAny rfl) (by rfl) T.b_any (by decide +kernel) (da_cons (de_frz (de_lc2 (own := [("one", 6), ("other", 7)]) (vs1 := [7]) rfl sc_Split_can_part.nd (di_list (de_var 4)) (blkOk_by (N := ["self", "found", "goals", "pair", "ones", "others", "one", "other"]) (sc := defScope s_Split_can_part) (own := [("one", 6), ("other", 7)]) (by decide +kernel)) (by decide) (by decide) (by decide) (fun _ _ _ _ _ => (dg_name (i := 6) sc_Split_can_part.nd rfl (by first | exact Or.inl rfl | exact Or.inr rfl))) (fun _ _ _ _ _ => dts_nil) (fun _ _ _ _ _ => (di_list (de_var 5))) (fun _ _ _ _ _ => (dg_name (i := 7) sc_Split_can_part.nd rfl (by first | exact Or.inl rfl | exact Or.inr rfl))) (fun _ _ _ _ _ => dts_nil) (fun _ _ _ _ _ => (de_cmp (op_dInA hr.units) (de_tup (da_cons (de_var 6) (da_cons (de_var 7) da_nil))) (de_var 1) (by rfl))))) da_nil)))
  (dss_one (ds_ret de_bl))
  dss_nil)))
  (dss_one (ds_ret de_bl))), fun p0 p1 p2 p3 h Q q => ?_⟩)
  rw [show dstart ["self", "found", "goals", "pair", "ones", "others", "one", "other"] [p0, p1, p2, p3] = [some p0, some p1, some p2, some p3, none, none, none, none] from rfl]
  obtain ⟨kvs, G, x, y, hd, rfl, rfl, hx, hy, hG, q⟩ := q
  have line1000 := line1000
  unfold pairD
  walk_at "dgo"
  refine oAt_of (map_at natssD (getD_some [] hx)) (oAt_of (map_at natssD (getD_some [] hy)) ?_)
  unfold natssD
  walk_at "dgo"
  have hgx := hG _ (List.mem_of_getElem? (getD_some [] hx))
  have hgy := hG _ (List.mem_of_getElem? (getD_some [] hy))
  generalize G.getD x [] = g1 at q hgx ⊢
  generalize G.getD y [] = g2 at q hgy ⊢
  have ep : pairs (g1.map natsD) (g2.map natsD) = (g1.zip g2).map fun p => .tup [natsD p.1, natsD p.2] := by
    unfold pairs
    rw [List.zipWith_map, List.map_zip_eq_zipWith]
    rfl
  refine for_pre (fun p => .tup [natsD p.1, natsD p.2]) (g1.zip g2) ep (fun pre σ h' => ∃ v4 v5 : Option D, σ = [some p0, some p1, some (.rol (G.map fun xs => .rol (xs.map natsD))), some (.tup [nD x, nD y]), v4, v5, none, none] ∧ h' = h ∧ (pre.any fun p => p.1.any fun x => p.2.any fun y => (dlook kvs (pairD (x, y))).isSome) = false) ⟨none, none, rfl, rfl, rfl⟩ (fun _ _ _ _ => trivial) ?_ ?_
  · rintro pre ⟨xs, ys⟩ post σ h' e ⟨v4, v5, rfl, rfl, hn⟩ nx hnx
    have hm : (xs, ys) ∈ g1.zip g2 := by rw [e]; exact List.mem_append_right _ List.mem_cons_self
    have l1 := hgx.2 xs (List.of_mem_zip hm).1
    have l2 := hgy.2 ys (List.of_mem_zip hm).2
    unfold natsD
    walk_at "dgo"
    refine lc2A nD xs (fun _ => ys) nD (fun x y => .bl (dlook kvs (pairD (x, y))).isSome) _ rfl (fun _ _ => trivial) (fun _ _ _ _ k => k) (fun x1 hx1 h1 s1 R hR => ?_) (fun x1 hx1 y1 hy1 h1 s1 R hR => ?_) ?_ ?_
    · walk_at "dgo"
      exact hR _ fun _ _ => trivial
    · simp only [DL.gNm, DL.dOp, DL.dVar, DL.dTup, DL.dCons, DL.dNil, DL.dwipe, List.getElem?_cons_zero, List.getElem?_cons_succ, List.set_cons_zero, List.set_cons_succ, List.length_cons, List.length_nil, DL.sz2, true_and]
      exact in_dct (hd.sub s1) (key_pair (x1, y1)) hR
    · have := flatMap_le (fun _ => ys) 8 xs fun _ _ => l2
      omega
    walk_at "dgo"
    refine ⟨xs.flatMap fun x => ys.map fun y => (dlook kvs (pairD (x, y))).isSome, ?_, ?_⟩
    · rw [← allB_map]
      congr 1
      rw [List.map_flatMap]
      congr 1
      funext x1
      rw [List.map_map]
      rfl
    have ea : ((xs.flatMap fun x => ys.map fun y => (dlook kvs (pairD (x, y))).isSome).any id) = xs.any fun x => ys.any fun y => (dlook kvs (pairD (x, y))).isSome := by
      rw [List.any_flatMap]
      congr 1
      funext x1
      rw [List.any_map]
      rfl
    rw [ea]
    cases eb : (xs.any fun x => ys.any fun y => (dlook kvs (pairD (x, y))).isSome) with
    | true =>
      walk_at "dgo"
      unfold canF at q
      rw [e, List.any_append, List.any_cons] at q
      dsimp only at q
      rw [eb, Bool.true_or, Bool.or_true] at q
      exact Wk.of q
    | false =>
      walk_at "dgo"
      refine hnx _ _ ⟨_, _, rfl, rfl, ?_⟩
      rw [List.any_append, hn, List.any_cons]
      dsimp only
      rw [eb]
      rfl
  · rintro σ h' ⟨v4, v5, rfl, rfl, hn⟩
    walk_at "dgo"
    unfold canF at q
    rw [hn] at q
    exact Wk.of q
end
end My
namespace My
open PySem PySem.Spec PyProof.Rows L2 DL
theorem paired_enc {α β : Type} (enc : β → D) {F : α → D → Prop} {G : α → β → Prop} (hF : ∀ a d, F a d → ∃ b, d = enc b ∧ G a b) : ∀ {ys : List α} {ds : List D}, Paired F ys ds → ∃ bs : List β, ds = bs.map enc ∧ bs.length = ys.length ∧ ∀ (i : Nat) (a : α), ys[i]? = some a → ∃ b, bs[i]? = some b ∧ G a b
  | [], _, .nil => ⟨[], rfl, rfl, fun i a h => by simp at h⟩
  | y :: ys, d :: ds, .cons r t => by
    obtain ⟨g, e, hl, hg⟩ := paired_enc enc hF t
    obtain ⟨ns, e2, h2⟩ := hF y d r
    refine ⟨ns :: g, by rw [List.map_cons, e2, e], by rw [List.length_cons, List.length_cons, hl], fun i a h => ?_⟩
    cases i with
    | zero =>
      simp at h
      subst h
      exact ⟨ns, rfl, h2⟩
    | succ i => simpa using hg i a (by simpa using h)
structure PGood (S : Qs) (lot : List Nat) (kvs : List (D × D)) : Prop where
  nd : (kvs.map (·.1)).Nodup
  sub : ∀ x ∈ kvs.map (·.1), x ∈ (allPairs S.tbl.length).map pairD
  sound : ∀ t, (dlook kvs (pairD t)).isSome = true → Prt S lot t.1 t.2
  base : ∀ t, t ∈ allPairs S.tbl.length → flg S t.1 ≠ flg S t.2 → (dlook kvs (pairD t)).isSome = true
theorem PGood.len {S : Qs} {lot : List Nat} {kvs : List (D × D)} (g : PGood S lot kvs) : kvs.length ≤ (allPairs S.tbl.length).length := by
  have := nodup_le g.nd g.sub
  rw [List.length_map, List.length_map] at this
  exact this
noncomputable def pLeft (S : Qs) (kvs : List (D × D)) : Nat := ((allPairs S.tbl.length).filter fun t => !(dlook kvs (pairD t)).isSome).length
noncomputable def pTest (G : List (List (List Nat))) (kvs : List (D × D)) (t : Nat × Nat) : Bool := !(dlook kvs (pairD t)).isSome && canF kvs (G.getD t.1 []) (G.getD t.2 [])
/-- the goals of all standings -/
structure AllGoals (S : Qs) (lot : List Nat) (G : List (List (List Nat))) : Prop where
  len : G.length = S.tbl.length
  at_ : ∀ st, st < S.tbl.length → GoalsOk S lot st (G.getD st [])
theorem canF_iff {S : Qs} {lot : List Nat} {G : List (List (List Nat))} (ag : AllGoals S lot G) {kvs : List (D × D)} {a b : Nat} (ha : a < S.tbl.length) (hb : b < S.tbl.length) :
    canF kvs (G.getD a []) (G.getD b []) = true ↔ ∃ c i j, c < (othC S lot).length ∧ i < (lotC S lot).length ∧ j < (lotC S lot).length ∧ (dlook kvs (pairD (ld S lot a i c, ld S lot b j c))).isSome = true := by
  have g1 := ag.at_ a ha
  have g2 := ag.at_ b hb
  unfold canF
  rw [List.any_eq_true]
  constructor
  · rintro ⟨⟨xs, ys⟩, hm, h⟩
    obtain ⟨x, hx, h⟩ := List.any_eq_true.mp h
    obtain ⟨y, hy, h⟩ := List.any_eq_true.mp h
    obtain ⟨c, hc⟩ := List.mem_iff_getElem?.mp hm
    rw [List.getElem?_zip_eq_some] at hc
    have hcl : c < (othC S lot).length := by rw [← g1.len]; exact (List.getElem?_eq_some_iff.mp hc.1).1
    have ex : (G.getD a []).getD c [] = xs := by rw [List.getD_eq_getElem?_getD, hc.1]; rfl
    have ey : (G.getD b []).getD c [] = ys := by rw [List.getD_eq_getElem?_getD, hc.2]; rfl
    obtain ⟨i, hi, rfl⟩ := (g1.at_ c hcl x).mp (by rw [ex]; exact hx)
    obtain ⟨j, hj, rfl⟩ := (g2.at_ c hcl y).mp (by rw [ey]; exact hy)
    exact ⟨c, i, j, hcl, hi, hj, h⟩
  · rintro ⟨c, i, j, hcl, hi, hj, h⟩
    refine ⟨((G.getD a []).getD c [], (G.getD b []).getD c []), List.mem_iff_getElem?.mpr ⟨c, List.getElem?_zip_eq_some.mpr ⟨getD_some [] (by rw [g1.len]; exact hcl), getD_some [] (by rw [g2.len]; exact hcl)⟩⟩, ?_⟩
    exact List.any_eq_true.mpr ⟨_, (g1.at_ c hcl _).mpr ⟨i, hi, rfl⟩, List.any_eq_true.mpr ⟨_, (g2.at_ c hcl _).mpr ⟨j, hj, rfl⟩, h⟩⟩
theorem prt_in {S : Qs} {lot : List Nat} (ok : S.Ok) {I : Nat × Nat → Prop} (base : ∀ t ∈ allPairs S.tbl.length, flg S t.1 ≠ flg S t.2 → I t)
    (cl : ∀ a b, a < S.tbl.length → b < S.tbl.length → (∃ c i j, c < (othC S lot).length ∧ i < (lotC S lot).length ∧ j < (lotC S lot).length ∧ I (ld S lot a i c, ld S lot b j c)) → I (a, b)) : ∀ a b, Prt S lot a b → a < S.tbl.length → b < S.tbl.length → I (a, b) := by
  intro a b u
  induction u with
  | @here a b h => exact fun ha hb => base (a, b) (allPairs_mem.mpr ⟨ha, hb⟩) h
  | @step a b i j c hi hj hc _ ih => exact fun ha hb => cl a b ha hb ⟨c, i, j, hc, hi, hj, ih (ld_lt ok ha hi hc).2 (ld_lt ok hb hj hc).2⟩
def sp_Split_partable_pairs (C : Nat → Addr) : DSp := sp1 fun a h P => ∃ (S : Qs) (k : Addr) (lot : List Nat) (fs : List (Str × D)), SelfAt h a (C 1) fs ∧ SF3 C S k lot fs ∧ fs.lookup ("goals_of" : Str) = none ∧ fs.lookup ("can_part" : Str) = none ∧ S.Ok ∧ LotOk S.r lot ∧
  ∀ u, PartOk S lot u → P u h
section
variable {P : Program} {w : World} {K : PySem.W.Frag} {mg : Str → Option Value} {base : Heap}
theorem ok_Split_partable_pairs (T : Txt K mg) : DFn P w K mg base 2 T.a_Split_partable_pairs T.d_Split_partable_pairs ["self"] (sp_Split_partable_pairs T.Cm) := by
  refine dfn1 T.F_Split_partable_pairs sc_Split_partable_pairs rfl (fun cdv A outer s H E hr => ⟨_, (dss_cons (ds_set (i := 1) sc_Split_partable_pairs.nd rfl (by first | exact Or.inl rfl | exact Or.inr rfl) (de_frz (de_lc (own := [("standing", 6)]) rfl sc_Split_partable_pairs.nd (di_range1 (by rfl) T.b_range (da_cons (de_callB call_dLen (by rfl) T.b_len (by decide +kernel) (da_cons (de_fldK (K := K) (by rfl) (de_var 0)) da_nil)) da_nil)) (blkOk_by (N := ["self", "goals", "pairs", "found", "is_new", "more", "standing", "one", "other", "pair"]) (sc := defScope s_Split_partable_pairs) (own := [("standing", 6)]) (by decide +kernel)) (by decide) (fun _ _ _ _ _ => (dg_name (i := 6) sc_Split_partable_pairs.nd rfl (by first | exact Or.inl rfl | exact Or.inr rfl))) (fun _ _ _ _ _ => dts_nil) (fun _ _ _ _ _ => (de_meth (de_var 0) T.cl_Split T.me_Split_goals_of (ok_Split_goals_of T) (hr.mono (by decide)) T.b_Split_goals_of (da_cons (de_var 6) da_nil))))))
  (dss_cons (ds_frz (by rfl) (ds_setLc2 (i := 2) (own := [("one", 7), ("other", 8)]) (vs1 := [8]) rfl sc_Split_partable_pairs.nd rfl rfl (sw_true rfl rfl rfl (by decide +kernel)) (di_range1 (by rfl) T.b_range (da_cons (de_callB call_dLen (by rfl) T.b_len (by decide +kernel) (da_cons (de_var 1) da_nil)) da_nil)) (blkOk_by (N := ["self", "goals", "pairs", "found", "is_new", "more", "standing", "one", "other", "pair"]) (sc := defScope s_Split_partable_pairs) (own := [("one", 7), ("other", 8)]) (by decide +kernel)) (by decide) (by decide) (by decide) (fun _ _ _ _ _ => (dg_name (i := 7) sc_Split_partable_pairs.nd rfl (by first | exact Or.inl rfl | exact Or.inr rfl))) (fun _ _ _ _ _ => dts_nil) (fun _ _ _ _ _ => (di_range1 (by rfl) T.b_range (da_cons (de_callB call_dLen (by rfl) T.b_len (by decide +kernel) (da_cons (de_var 1) da_nil)) da_nil))) (fun _ _ _ _ _ => (dg_name (i := 8) sc_Split_partable_pairs.nd rfl (by first | exact Or.inl rfl | exact Or.inr rfl))) (fun _ _ _ _ _ => dts_nil) (fun _ _ _ _ _ => (de_tup (da_cons (de_var 7) (da_cons (de_var 8) da_nil))))))
  (dss_cons (ds_set (i := 3) sc_Split_partable_pairs.nd rfl (by first | exact Or.inl rfl | exact Or.inr rfl) (de_dc (own := [("pair", 9)]) hr.units rfl sc_Split_partable_pairs.nd (di_list (de_var 2)) (blkOk_by (N := ["self", "goals", "pairs", "found", "is_new", "more", "standing", "one", "other", "pair"]) (sc := defScope s_Split_partable_pairs) (own := [("pair", 9)]) (by decide +kernel)) (by decide) (fun _ _ _ _ _ => (dg_name (i := 9) sc_Split_partable_pairs.nd rfl (by first | exact Or.inl rfl | exact Or.inr rfl))) (fun _ _ _ _ _ => (dts_one (dt_cmp (op_dNeA hr.units) (de_ix (de_fldK (K := K) (by rfl) (de_var 0)) (de_ix (de_var 9) de_int)) (de_ix (de_fldK (K := K) (by rfl) (de_var 0)) (de_ix (de_var 9) de_int)) (nomark _)))) (fun _ _ _ _ _ => (de_var 9)) (fun _ _ _ _ _ => de_bl)))
  (dss_cons (ds_set (i := 4) sc_Split_partable_pairs.nd rfl (by first | exact Or.inl rfl | exact Or.inr rfl) de_bl)
  (dss_cons (ds_while PassesOwn.never (dt_val (de_var 4))
  (dss_cons (ds_frz (by rfl) (ds_setLc (i := 5) (own := [("pair", 9)]) rfl sc_Split_partable_pairs.nd rfl rfl (sw_true rfl rfl rfl (by decide +kernel)) (di_list (de_var 2)) (blkOk_by (N := ["self", "goals", "pairs", "found", "is_new", "more", "standing", "one", "other", "pair"]) (sc := defScope s_Split_partable_pairs) (own := [("pair", 9)]) (by decide +kernel)) (by decide) (fun _ _ _ _ _ => (dg_name (i := 9) sc_Split_partable_pairs.nd rfl (by first | exact Or.inl rfl | exact Or.inr rfl))) (fun _ _ _ _ _ => (dts_one (dw_and (dt_cmp (op_dNotInA hr.units) (de_var 9) (de_var 3) (by rfl)) (dw_and1 (dt_val (de_meth (de_var 0) T.cl_Split T.me_Split_can_part (ok_Split_can_part T) (hr.mono (by decide)) T.b_Split_can_part (da_cons (de_var 3) (da_cons (de_var 1) (da_cons (de_var 9) da_nil))))))).dt)) (fun _ _ _ _ _ => (de_var 9))))
  (dss_cons (ds_expr (de_md PySem.F.slot_dict_update PySem.F.type_dict_update (mt_dUpdate hr.units) (de_var 3) (da_cons (de_frz (de_dc (own := [("pair", 9)]) hr.units rfl sc_Split_partable_pairs.nd (di_list (de_var 5)) (blkOk_by (N := ["self", "goals", "pairs", "found", "is_new", "more", "standing", "one", "other", "pair"]) (sc := defScope s_Split_partable_pairs) (own := [("pair", 9)]) (by decide +kernel)) (by decide) (fun _ _ _ _ _ => (dg_name (i := 9) sc_Split_partable_pairs.nd rfl (by first | exact Or.inl rfl | exact Or.inr rfl))) (fun _ _ _ _ _ => dts_nil) (fun _ _ _ _ _ => (de_var 9)) (fun _ _ _ _ _ => de_bl))) da_nil)))
  (dss_one (ds_set (i := 4) sc_Split_partable_pairs.nd rfl (by first | exact Or.inl rfl | exact Or.inr rfl) (de_cmp op_dGt (de_callB call_dLen (by rfl) T.b_len (by decide +kernel) (da_cons (de_var 5) da_nil)) de_int (nomark _)))))))
  (dss_one (ds_ret (de_frz (de_var 3))))))))), fun p0 h Q q => ?_⟩)
  rw [show dstart ["self", "goals", "pairs", "found", "is_new", "more", "standing", "one", "other", "pair"] [p0] = [some p0, none, none, none, none, none, none, none, none, none] from rfl]
  obtain ⟨S, k, lot, fs, sa, sf, ng, nc, ok, lo, q⟩ := q
  have line1000 := line1000
  have t8 := ok.t8
  have og := othG_small ok lo
  rw [othG_len] at og
  have tl := allPairs_len S.tbl.length ok.t8
  have fl : ∀ {h' : DH} {f : Str} {v : D} {R : D → Prop}, Sub h h' → NoAttr K T.C_Split f → fs.lookup f = some v → R v → fldAt K p0 h' f R := fun {h' f v R} s n l r => fld_self (sa.sub s) ⟨T.cl_Split, n⟩ l r
  have flen : (flagL S).length = S.tbl.length := by unfold flagL; rw [List.length_map]
  walk_at "dgo"
  refine fl (Sub.refl h) T.n_Split_flags sf.flags ?_
  walk_at "dgo"
  rw [List.length_map, flen]
  refine ⟨⟨by omega, by omega⟩, ?_⟩
  rw [Int.toNat_natCast]
  refine lcRA (fun (i : Nat) => .int ((0 : Int) + i)) (List.range S.tbl.length) (fun st d => ∃ g, d = natssD g ∧ (st < S.tbl.length → GoalsOk S lot st g)) rfl (fun _ _ => trivial) (fun st hs h1 s1 R hR => ?_) (by rw [List.length_range]; omega) (fun ds hf => ?_)
  · have hs := List.mem_range.mp hs
    walk_at "dgo"
    refine recv_self (sa.sub s1) ng ?_
    rw [Int.zero_add]
    exact ⟨S, k, lot, fs, st, sa.sub s1, sf, rfl, ok, lo, hs, fun g hg => hR _ ⟨g, rfl, fun _ => hg⟩⟩
  obtain ⟨G, rfl, hl, hg⟩ := paired_enc natssD (fun a d h => h) hf
  rw [List.length_range] at hl
  have ag : AllGoals S lot G := ⟨hl, fun st hs => by
    obtain ⟨g, e, h⟩ := hg st st (List.getElem?_range hs)
    rw [List.getD_eq_getElem?_getD, e]
    exact h hs⟩
  have few : ∀ g ∈ G, g.length ≤ 100 ∧ ∀ xs ∈ g, xs.length ≤ 8 := fun g hg' => by
    obtain ⟨i, hi⟩ := List.mem_iff_getElem?.mp hg'
    have hil : i < S.tbl.length := by rw [← hl]; exact (List.getElem?_eq_some_iff.mp hi).1
    have := ag.at_ i hil
    rw [List.getD_eq_getElem?_getD, hi] at this
    exact ⟨by have := this.len; have e : (some g).getD [] = g := rfl; rw [e] at this; omega, this.few⟩
  walk_at "dgo"
  rw [List.length_map, hl]
  refine ⟨⟨by omega, by omega⟩, ?_⟩
  rw [Int.toNat_natCast]
  refine lc2A (fun (i : Nat) => .int ((0 : Int) + i)) (List.range S.tbl.length) (fun _ => List.range S.tbl.length) (fun (i : Nat) => .int ((0 : Int) + i)) (fun a b => pairD (a, b)) _ rfl (fun _ _ => trivial) (fun _ _ _ _ k => k) (fun a ha h1 s1 R hR => ?_) (fun a ha b hb h1 s1 R hR => ?_) ?_ ?_
  · walk_at "dgo"
    rw [List.length_map, hl]
    refine ⟨⟨by omega, by omega⟩, ?_⟩
    rw [Int.toNat_natCast]
    exact hR _ fun _ _ => trivial
  · walk_at "dgo"
    rw [Int.zero_add, Int.zero_add]
    exact hR
  · have := flatMap_le (fun _ => List.range S.tbl.length) 8 (List.range S.tbl.length) fun _ _ => by rw [List.length_range]; exact t8
    rw [List.length_range] at this
    omega
  rw [show ((List.range S.tbl.length).flatMap fun a => (List.range S.tbl.length).map fun b => pairD (a, b)) = (allPairs S.tbl.length).map pairD by
    unfold allPairs
    rw [List.map_flatMap]
    congr 1
    funext a
    rw [List.map_map]
    rfl]
  walk_at "dgo"
  refine dcF pairD (allPairs S.tbl.length) (fun t => !decide (flg S t.1 = flg S t.2)) pairD (fun _ => .bl true) rfl (fun _ _ => trivial) (fun t ht h1 s1 R R' hR hR' => ?_) (fun t _ _ => key_pair t) (by omega) (fun p np => ?_)
  · have tri := allPairs_mem.mp ht
    unfold pairD at hR ⊢
    walk_at "dgo"
    refine fl s1 T.n_Split_flags sf.flags ?_
    walk_at "dgo"
    refine oAt_of (flag_at tri.1) (fl s1 T.n_Split_flags sf.flags ?_)
    walk_at "dgo"
    refine oAt_of (flag_at tri.2) ?_
    walk_at "dgo"
    cases e : decide (flg S t.1 = flg S t.2) with
    | true => walk_at "dgo"; exact hR' (by rw [e]; rfl)
    | false => walk_at "dgo"; exact hR (by rw [e]; rfl)
  walk_at "dgo"
  have base0 : PGood S lot (putAll [] (((allPairs S.tbl.length).filter fun t => !decide (flg S t.1 = flg S t.2)).map fun y => (pairD y, D.bl true))) := by
    refine ⟨putAll_nd _ (by simp), fun x hx => ?_, fun t ht => ?_, fun t tri hf => ?_⟩
    · rcases putAll_mem.mp hx with h | h
      · cases h
      · rw [List.map_map] at h
        obtain ⟨y, hy, rfl⟩ := List.mem_map.mp h
        exact List.mem_map.mpr ⟨y, (List.mem_filter.mp hy).1, rfl⟩
    · rcases (putAll_some _ _ _).mp ht with h | h
      · cases h
      · rw [List.map_map] at h
        obtain ⟨y, hy, e⟩ := List.mem_map.mp h
        rw [← pairD_inj e]
        have := (List.mem_filter.mp hy).2
        exact .here (by simpa using this)
    · refine (putAll_some _ _ _).mpr (.inr ?_)
      rw [List.map_map]
      exact List.mem_map.mpr ⟨t, List.mem_filter.mpr ⟨tri, by simpa using hf⟩, rfl⟩
  refine wh_inv (fun n σ h' => ∃ kvs b v5, σ = [some p0, some (.rol (G.map natssD)), some (.rol ((allPairs S.tbl.length).map pairD)), some (.ref p), some (.bl b), v5, none, none, none, none] ∧ h' = put h p (.dct kvs) ∧ PGood S lot kvs ∧
    (b = false → ∀ t ∈ allPairs S.tbl.length, pTest G kvs t = false) ∧ n = (if b = true then pLeft S kvs + 1 else 0)) (n := _) ⟨_, true, none, rfl, rfl, base0, (fun e => by cases e), rfl⟩ ?_
  rintro n σ h' ⟨kvs, b, v5, rfl, rfl, gd, cl, rfl⟩ nx hnx
  walk_at "dgo"
  cases b with
  | false =>
    walk_at "dgo"
    rw [frz_newD np]
    refine Wk.of (q _ ⟨kvs, rfl, fun a b ha hb => ⟨gd.sound _, fun u => ?_⟩⟩)
    refine prt_in (I := fun t => (dlook kvs (pairD t)).isSome = true) ok gd.base (fun a b ha hb z => ?_) a b u ha hb
    have z := (canF_iff ag ha hb).mpr z
    have := cl rfl (a, b) (allPairs_mem.mpr ⟨ha, hb⟩)
    unfold pTest at this
    rw [z, Bool.and_true] at this
    simpa using this
  | true =>
    walk_at "dgo"
    have sn : Sub h (put h p (.dct kvs)) := Sub.new np
    refine lcF pairD (allPairs S.tbl.length) pairD (pTest G kvs) rfl (fun _ _ => trivial) (fun t ht h1 s1 R R' hR hR' => ?_) (by omega) ?_
    · have tri := allPairs_mem.mp ht
      have e1 : h1 p = some (.dct kvs) := s1 _ _ put_same
      have goal : ∀ R2 : Bool → DH → Prop, R2 (pTest G kvs t) h1 → dAnd (dTest (dOp dNotInA (dVar 9) (dVar 3))) (dTest (dMeth T.C_Split "can_part" (sp_Split_can_part T.Cm) (dVar 0) (dCons (dVar 3) (dCons (dVar 1) (dCons (dVar 9) dNil))))) [some p0, some (.rol (G.map natssD)), some (.rol ((allPairs S.tbl.length).map pairD)), some (.ref p), some (.bl true), v5, none, none, none, some (pairD t)] h1 R2 := fun R2 hR2 => by
        unfold pairD
        walk_at "dgo"
        refine rdct_of e1 ⟨key_pair t, ?_⟩
        unfold pTest at hR2
        cases e : (dlook kvs (pairD t)).isSome with
        | true =>
          rw [e] at hR2
          unfold pairD at e
          rw [e]
          walk_at "dgo"
          exact hR2
        | false =>
          rw [e] at hR2
          unfold pairD at e
          rw [e]
          walk_at "dgo"
          have sa2 := sa.sub (sn.trans s1)
          refine recv_self sa2 nc ?_
          refine ⟨kvs, G, t.1, t.2, .inl ⟨p, rfl, .inl e1⟩, rfl, rfl, by rw [hl]; exact tri.1, by rw [hl]; exact tri.2, few, ?_⟩
          walk_at "dgo"
          exact hR2
      refine goal _ ?_
      cases e : pTest G kvs t with
      | true => walk_at "dgo"; exact hR e
      | false => walk_at "dgo"; exact hR' e
    walk_at "dgo"
    generalize hm : (allPairs S.tbl.length).filter (pTest G kvs) = more
    have ml : more.length ≤ (allPairs S.tbl.length).length := by rw [← hm]; exact List.length_filter_le _ _
    refine rdct_of put_same ?_
    refine dcA pairD more pairD (fun _ => .bl true) rfl (fun _ _ => trivial) (fun t ht h1 s1 R hR => ?_) (fun t _ => key_pair t) (by omega) (fun L nL => ?_)
    · walk_at "dgo"
      exact hR
    rw [frz_newD nL]
    refine dctAt_of put_same ?_
    dsimp only
    rw [zip_maps]
    have pl := putAll_len [] (more.map fun y => (pairD y, D.bl true))
    rw [List.length_nil, List.length_map] at pl
    have gl := gd.len
    refine ⟨⟨(fun e => by cases e), ?_, by omega⟩, ?_⟩
    · by_cases hk : kvs = []
      · right
        have : more = [] := by
          rw [← hm]
          refine List.filter_eq_nil_iff.mpr fun t _ => ?_
          unfold pTest canF
          rw [hk]
          simp [dlook]
        rw [this]
        rfl
      · exact .inl hk
    rw [put_put, List.length_map]
    have some_iff : ∀ t, (dlook (putAll kvs (putAll [] (more.map fun y => (pairD y, D.bl true)))) (pairD t)).isSome = true ↔ (dlook kvs (pairD t)).isSome = true ∨ t ∈ more := fun t => by
      rw [putAll_some, putAll_mem, List.map_map]
      constructor
      · rintro (h | h | h)
        · exact .inl h
        · cases h
        · obtain ⟨y, hy, e⟩ := List.mem_map.mp h
          rw [← pairD_inj e]
          exact .inr hy
      · rintro (h | h)
        · exact .inl h
        · exact .inr (.inr (List.mem_map.mpr ⟨t, h, rfl⟩))
    have gd2 : PGood S lot (putAll kvs (putAll [] (more.map fun y => (pairD y, D.bl true)))) := by
      refine ⟨putAll_nd _ gd.nd, fun x hx => ?_, fun t ht => ?_, fun t tri hf => (some_iff t).mpr (.inl (gd.base t tri hf))⟩
      · rcases putAll_mem.mp hx with h | h
        · exact gd.sub x h
        · rcases putAll_mem.mp h with h | h
          · cases h
          · rw [List.map_map] at h
            obtain ⟨y, hy, rfl⟩ := List.mem_map.mp h
            rw [← hm] at hy
            exact List.mem_map.mpr ⟨y, (List.mem_filter.mp hy).1, rfl⟩
      · rcases (some_iff t).mp ht with h | h
        · exact gd.sound t h
        · rw [← hm] at h
          obtain ⟨h1, h2⟩ := List.mem_filter.mp h
          unfold pTest at h2
          rw [Bool.and_eq_true] at h2
          have tm := allPairs_mem.mp h1
          obtain ⟨c, i, j, hc, hi, hj, h4⟩ := (canF_iff ag tm.1 tm.2).mp h2.2
          exact .step hi hj hc (gd.sound _ h4)
    refine hnx _ _ _ ?_ ⟨_, _, _, rfl, rfl, gd2, fun hb t ht => ?_, rfl⟩
    · rw [if_pos rfl]
      by_cases hpos : (0 : Int) < more.length
      · rw [if_pos (decide_eq_true hpos)]
        cases more with
        | nil => exact absurd hpos (by decide)
        | cons t r =>
          have ht : t ∈ (allPairs S.tbl.length).filter (pTest G kvs) := by rw [hm]; exact List.mem_cons_self
          obtain ⟨h1, h2⟩ := List.mem_filter.mp ht
          unfold pTest at h2
          rw [Bool.and_eq_true] at h2
          have := filter_less (p := fun t' => !(dlook (putAll kvs (putAll [] ((t :: r).map fun y => (pairD y, D.bl true)))) (pairD t')).isSome) (q := fun t' => !(dlook kvs (pairD t')).isSome) (xs := allPairs S.tbl.length) (fun x _ hx => by
            cases e : (dlook kvs (pairD x)).isSome with
            | false => rfl
            | true =>
              have := (some_iff x).mpr (.inl e)
              rw [this] at hx
              exact hx) t h1 h2.1 (by rw [(some_iff t).mpr (.inr List.mem_cons_self)]; rfl)
          unfold pLeft
          omega
      · rw [if_neg (by rw [decide_eq_false hpos]; exact Bool.false_ne_true)]
        omega
    · have hz : more = [] := by
        have := of_decide_eq_false hb
        exact List.length_eq_zero_iff.mp (by omega)
      have hk : putAll kvs (putAll [] (more.map fun y => (pairD y, D.bl true))) = kvs := by rw [hz]; rfl
      rw [hk]
      cases e : pTest G kvs t with
      | false => rfl
      | true =>
        have : t ∈ more := by rw [← hm]; exact List.mem_filter.mpr ⟨ht, e⟩
        rw [hz] at this
        cases this
end
end My
namespace My
open PySem PySem.Spec PyProof.Rows L2 DL
def sp_Split_init (C : Nat → Addr) : DSp := sp3 fun a b c h P => ∃ (s : Addr) (S : Qs) (k : Addr) (lot : List Nat), a = .ref s ∧ b = qV C S k ∧ c = lotD lot ∧ QAt C h S k ∧ LotOk S.r lot ∧ s ≠ k ∧ h s = some (.ins (C 1) []) ∧
  ∀ u p, UnlikeOk S lot u → PartOk S lot p → P .non (put h s (.ins (C 1) (splitFs C S k lot u p)))
section
variable {P : Program} {w : World} {K : PySem.W.Frag} {mg : Str → Option Value} {base : Heap}
theorem ok_Split_init (T : Txt K mg) : DFn P w K mg base 6 T.a_Split_init T.d_Split_init ["self", "question", "lot"] (sp_Split_init T.Cm) := by
  refine dfn3 T.F_Split_init sc_Split_init rfl (fun cdv A outer s H E hr => ⟨_, (dss_cons (ds_fld (de_var 0) (de_var 1))
  (dss_cons (ds_fld (de_var 0) (de_var 2))
  (dss_cons (ds_fld (de_var 0) (de_callTy call_dTupOf (by rfl) T.b_tuple (by decide +kernel) (da_cons (de_frz (de_lc (own := [("row", 3)]) rfl sc_Split_init.nd (di_range1 (by rfl) T.b_range (da_cons (de_fldK (K := K) (by rfl) (de_var 1)) da_nil)) (blkOk_by (N := ["self", "question", "lot", "row", "column", "standing", "item"]) (sc := defScope s_Split_init) (own := [("row", 3)]) (by decide +kernel)) (by decide) (fun _ _ _ _ _ => (dg_name (i := 3) sc_Split_init.nd rfl (by first | exact Or.inl rfl | exact Or.inr rfl))) (fun _ _ _ _ _ => (dts_one (dt_cmp (op_dNotInA hr.units) (de_var 3) (de_var 2) (by rfl)))) (fun _ _ _ _ _ => (de_var 3)))) da_nil)))
  (dss_cons (ds_fld (de_var 0) (de_call (ok_columns T) (hr.mono (by decide)) (by rfl) T.m_columns T.F_columns.kp T.b_columns (da_cons (de_callB call_dLen (by rfl) T.b_len (by decide +kernel) (da_cons (de_fldK (K := K) (by rfl) (de_var 0)) da_nil)) (da_cons (de_fldK (K := K) (by rfl) (de_var 1)) da_nil))))
  (dss_cons (ds_fld (de_var 0) (de_call (ok_columns T) (hr.mono (by decide)) (by rfl) T.m_columns T.F_columns.kp T.b_columns (da_cons (de_callB call_dLen (by rfl) T.b_len (by decide +kernel) (da_cons (de_fldK (K := K) (by rfl) (de_var 0)) da_nil)) (da_cons (de_fldK (K := K) (by rfl) (de_var 1)) da_nil))))
  (dss_cons (ds_fld (de_var 0) (de_frz (de_lc (own := [("column", 4)]) rfl sc_Split_init.nd (di_list (de_fldK (K := K) (by rfl) (de_var 0))) (blkOk_by (N := ["self", "question", "lot", "row", "column", "standing", "item"]) (sc := defScope s_Split_init) (own := [("column", 4)]) (by decide +kernel)) (by decide) (fun _ _ _ _ _ => (dg_name (i := 4) sc_Split_init.nd rfl (by first | exact Or.inl rfl | exact Or.inr rfl))) (fun _ _ _ _ _ => dts_nil) (fun _ _ _ _ _ => (de_call (ok_gone_in T) (hr.mono (by decide)) (by rfl) T.m_gone_in T.F_gone_in.kp T.b_gone_in (da_cons (de_var 4) da_nil))))))
  (dss_cons (ds_fld (de_var 0) (de_frz (de_lc (own := [("column", 4)]) rfl sc_Split_init.nd (di_list (de_fldK (K := K) (by rfl) (de_var 0))) (blkOk_by (N := ["self", "question", "lot", "row", "column", "standing", "item"]) (sc := defScope s_Split_init) (own := [("column", 4)]) (by decide +kernel)) (by decide) (fun _ _ _ _ _ => (dg_name (i := 4) sc_Split_init.nd rfl (by first | exact Or.inl rfl | exact Or.inr rfl))) (fun _ _ _ _ _ => dts_nil) (fun _ _ _ _ _ => (de_call (ok_gone_in T) (hr.mono (by decide)) (by rfl) T.m_gone_in T.F_gone_in.kp T.b_gone_in (da_cons (de_var 4) da_nil))))))
  (dss_cons (ds_fld (de_var 0) (de_meth (de_var 0) T.cl_Split T.me_Split_open_columns (ok_Split_open_columns T) (hr.mono (by decide)) T.b_Split_open_columns (da_cons (de_fldK (K := K) (by rfl) (de_var 0)) da_nil)))
  (dss_cons (ds_fld (de_var 0) (de_meth (de_var 0) T.cl_Split T.me_Split_open_columns (ok_Split_open_columns T) (hr.mono (by decide)) T.b_Split_open_columns (da_cons (de_fldK (K := K) (by rfl) (de_var 0)) da_nil)))
  (dss_cons (ds_fld (de_var 0) (de_frz (de_lc (own := [("standing", 5)]) rfl sc_Split_init.nd (di_range1 (by rfl) T.b_range (da_cons (de_callB call_dLen (by rfl) T.b_len (by decide +kernel) (da_cons (de_fldK (K := K) (by rfl) (de_var 1)) da_nil)) da_nil)) (blkOk_by (N := ["self", "question", "lot", "row", "column", "standing", "item"]) (sc := defScope s_Split_init) (own := [("standing", 5)]) (by decide +kernel)) (by decide) (fun _ _ _ _ _ => (dg_name (i := 5) sc_Split_init.nd rfl (by first | exact Or.inl rfl | exact Or.inr rfl))) (fun _ _ _ _ _ => dts_nil) (fun _ _ _ _ _ => (de_meth (de_var 0) T.cl_Split T.me_Split_leads_of (ok_Split_leads_of T) (hr.mono (by decide)) T.b_Split_leads_of (da_cons (de_var 5) da_nil))))))
  (dss_cons (ds_fld (de_var 0) (de_frz (de_lc (own := [("item", 6)]) rfl sc_Split_init.nd (di_tup (de_fldK (K := K) (by rfl) (de_var 1))) (blkOk_by (N := ["self", "question", "lot", "row", "column", "standing", "item"]) (sc := defScope s_Split_init) (own := [("item", 6)]) (by decide +kernel)) (by decide) (fun _ _ _ _ _ => (dg_name (i := 6) sc_Split_init.nd rfl (by first | exact Or.inl rfl | exact Or.inr rfl))) (fun _ _ _ _ _ => dts_nil) (fun _ _ _ _ _ => (de_ix (de_var 6) de_int)))))
  (dss_cons (ds_fld (de_var 0) (de_meth0 (de_var 0) T.cl_Split T.me_Split_unlike_ones (ok_Split_unlike_ones T) (hr.mono (by decide)) T.b_Split_unlike_ones))
  (dss_one (ds_fld (de_var 0) (de_meth0 (de_var 0) T.cl_Split T.me_Split_partable_pairs (ok_Split_partable_pairs T) (hr.mono (by decide)) T.b_Split_partable_pairs))))))))))))))), fun p0 p1 p2 h Q q => ?_⟩)
  rw [show dstart ["self", "question", "lot", "row", "column", "standing", "item"] [p0, p1, p2] = [some p0, some p1, some p2, none, none, none, none] from rfl]
  obtain ⟨s, S, k, lot, rfl, rfl, rfl, qa, lo, nsk, hs, q⟩ := q
  obtain ⟨ok, hk⟩ := id qa
  have line1000 := line1000
  have line81 := line81
  have hol := others_len lo
  have r4 := ok.r4
  have lpos := lo.ne
  have lall := lo.all
  have t8 := ok.t8
  have og := othG_small ok lo
  have og2 := og
  rw [othG_len] at og2
  have lg := lotC_small ok lo
  have qf : ∀ {h' : DH} {f : Str} {v : D} {R : D → Prop}, NoAttr K T.C_Question f → (qFs S k).lookup f = some v → R v → fldAt K (qV T.Cm S k) h' f R := fun {h' f v R} n l r => fld_self (qV_at (h := h')) ⟨T.cl_Question, n⟩ l r
  have hA : ∀ {f : Str}, NoAttr K T.C_Split f → HasA K T.C_Split f := fun n => ⟨T.cl_Split, n⟩
  have h0 : h = put h s (.ins T.C_Split ((splitFs T.Cm S k lot .non .non).take 0)) := by
    funext a
    by_cases z : a = s
    · rw [z, put_same, hs]; rfl
    · rw [put_ne z]
  have sf : ∀ {n : Nat} {u p : D} {f : Str} {v : D} {R : D → Prop}, NoAttr K T.C_Split f → ((splitFs T.Cm S k lot u p).take n).lookup f = some v → R v → fldAt K (.ref s) (put h s (.ins T.C_Split ((splitFs T.Cm S k lot u p).take n))) f R := fun {n u p f v R} n' l r => fld_self (.inl ⟨s, rfl, put_same⟩) ⟨T.cl_Split, n'⟩ l r
  have qs : ∀ o, QAt T.Cm (put h s o) S k := fun o => ⟨ok, by rw [put_ne nsk.symm]; exact hk⟩
  have tk : ∀ n, ((splitFs T.Cm S k lot .non .non).take n).length < 1000 := fun n => by
    have : ((splitFs T.Cm S k lot .non .non).take n).length ≤ 13 := by rw [List.length_take]; exact Nat.min_le_right _ _
    omega
  rw [h0]
  walk_at "dgo"
  refine insAt_of put_same ⟨(hA T.n_Split_question), tk _, ?_⟩
  rw [put_put, put_step split_nd (rfl : (splitFs T.Cm S k lot .non .non)[0]? = _)]
  refine insAt_of put_same ⟨(hA T.n_Split_lot), tk _, ?_⟩
  rw [put_put, put_step split_nd (rfl : (splitFs T.Cm S k lot .non .non)[1]? = _)]
  refine qf T.n_Question_rows (lk_rows S k) ?_
  walk_at "dgo"
  refine ⟨⟨by omega, by omega⟩, ?_⟩
  rw [Int.toNat_natCast]
  refine lcF (fun (i : Nat) => .int ((0 : Int) + i)) (List.range S.r) nD (fun x => decide (x ∉ lot)) rfl (fun _ _ => trivial) (fun x hx h1 s1 R R' hR hR' => ?_) (by rw [List.length_range]; omega) ?_
  · unfold lotD
    walk_at "dgo"
    rw [Int.zero_add, show decide (((x : Nat) : Int) ∈ lot.map Nat.cast) = decide (x ∈ lot) by
      rw [decide_eq_decide, List.mem_map]
      constructor
      · rintro ⟨y, hy, e⟩
        have : y = x := by omega
        exact this ▸ hy
      · exact fun hx => ⟨x, hx, rfl⟩]
    by_cases hx : x ∈ lot
    · rw [decide_eq_true hx]
      walk_at "dgo"
      exact hR' (by simpa using hx)
    · rw [decide_eq_false hx]
      walk_at "dgo"
      exact hR (by simpa using hx)
  walk_at "dgo"
  rw [show (D.tup (List.map nD (List.filter (fun x => decide (x ∉ lot)) (List.range S.r)))) = lotD (othersOf S.r lot) from rfl]
  refine insAt_of put_same ⟨(hA T.n_Split_others), tk _, ?_⟩
  rw [put_put, put_step split_nd (rfl : (splitFs T.Cm S k lot .non .non)[2]? = _)]
  refine sf T.n_Split_lot (look_take split_nd (i := 1) rfl (by decide)) ?_
  unfold lotD
  walk_at "dgo"
  rw [List.length_map]
  refine qf T.n_Question_letters (lk_letters S k) ?_
  refine ⟨lot.length, S.l, rfl, rfl, by omega, ok.l1, ok.l2, ?_⟩
  refine insAt_of put_same ⟨(hA T.n_Split_lot_columns), tk _, ?_⟩
  rw [put_put, put_step split_nd (rfl : (splitFs T.Cm S k lot .non .non)[3]? = _)]
  refine sf T.n_Split_others (look_take split_nd (i := 2) rfl (by decide)) ?_
  unfold lotD
  walk_at "dgo"
  rw [List.length_map]
  refine qf T.n_Question_letters (lk_letters S k) ?_
  refine ⟨(othersOf S.r lot).length, S.l, rfl, rfl, by omega, ok.l1, ok.l2, ?_⟩
  refine insAt_of put_same ⟨(hA T.n_Split_other_columns), tk _, ?_⟩
  rw [put_put, put_step split_nd (rfl : (splitFs T.Cm S k lot .non .non)[4]? = _)]
  refine sf T.n_Split_lot_columns (look_take split_nd (i := 3) rfl (by decide)) ?_
  unfold colsD
  walk_at "dgo"
  refine lcA encC (lotC S lot) (fun c => nD (goneN c)) rfl (fun _ _ => trivial) (fun c hc h1 s1 R hR => ?_) (by omega) ?_
  · have := (cols_mem.mp hc).1
    exact ⟨c, rfl, by omega, hR⟩
  walk_at "dgo"
  rw [show (D.rol ((lotC S lot).map fun c => nD (goneN c))) = natsD (lotG S lot) by unfold natsD lotG; rw [List.map_map]; rfl]
  refine insAt_of put_same ⟨(hA T.n_Split_lot_gone), tk _, ?_⟩
  rw [put_put, put_step split_nd (rfl : (splitFs T.Cm S k lot .non .non)[5]? = _)]
  refine sf T.n_Split_other_columns (look_take split_nd (i := 4) rfl (by decide)) ?_
  unfold colsD
  walk_at "dgo"
  refine lcA encC (othC S lot) (fun c => nD (goneN c)) rfl (fun _ _ => trivial) (fun c hc h1 s1 R hR => ?_) (by omega) ?_
  · have := (cols_mem.mp hc).1
    exact ⟨c, rfl, by omega, hR⟩
  walk_at "dgo"
  rw [show (D.rol ((othC S lot).map fun c => nD (goneN c))) = natsD (othG S lot) by unfold natsD othG; rw [List.map_map]; rfl]
  refine insAt_of put_same ⟨(hA T.n_Split_other_gone), tk _, ?_⟩
  rw [put_put, put_step split_nd (rfl : (splitFs T.Cm S k lot .non .non)[6]? = _)]
  have gl : (lotG S lot).length = (lotC S lot).length := by unfold lotG; rw [List.length_map]
  have hd : ∀ n : Nat, n ≤ 3 → 2 ^ n - 1 ≤ 15 := fun n hn => by
    have := Nat.pow_le_pow_right (show 0 < 2 by decide) hn
    omega
  have lh : (lotG S lot).headD 0 = 2 ^ lot.length - 1 := by
    have hx := cols_head (l := S.l) lot.length
    have hd : ∀ xs : List Nat, xs.headD 0 = (xs[0]?).getD 0 := fun xs => by cases xs <;> rfl
    unfold lotG lotC
    rw [hd, List.getElem?_map, hx]
    exact goneN_all _
  have no : ∀ {m : Str} (n : Nat), m ∉ (["question", "lot", "others", "lot_columns", "other_columns", "lot_gone", "other_gone", "lot_open", "other_open", "lead", "flags", "unlike", "partable"] : List Str) → ((splitFs T.Cm S k lot .non .non).take n).lookup m = none := fun n h => split_no h n
  have me : ∀ n, SelfAt (put h s (.ins T.C_Split ((splitFs T.Cm S k lot .non .non).take n))) (.ref s) T.C_Split ((splitFs T.Cm S k lot .non .non).take n) := fun n => .inl ⟨s, rfl, put_same⟩
  refine recv_self (me _) (no _ (by decide +kernel)) ?_
  refine sf T.n_Split_lot_gone (look_take split_nd (i := 5) rfl (by decide)) ?_
  refine ⟨lotG S lot, rfl, by rw [gl]; exact lotC_ne _ _, by omega, by rw [lh]; exact hd _ (by omega), ?_⟩
  refine insAt_of put_same ⟨(hA T.n_Split_lot_open), tk _, ?_⟩
  rw [put_put, put_step split_nd (rfl : (splitFs T.Cm S k lot .non .non)[7]? = _)]
  refine recv_self (me _) (no _ (by decide +kernel)) ?_
  refine sf T.n_Split_other_gone (look_take split_nd (i := 6) rfl (by decide)) ?_
  refine ⟨othG S lot, rfl, by rw [othG_len]; exact cols_ne _ _, by omega, by rw [othG_head]; exact hd _ (by omega), ?_⟩
  refine insAt_of put_same ⟨(hA T.n_Split_other_open), tk _, ?_⟩
  rw [put_put, put_step split_nd (rfl : (splitFs T.Cm S k lot .non .non)[8]? = _)]
  refine qf T.n_Question_table (lk_table S k) ?_
  unfold tblD
  walk_at "dgo"
  rw [List.length_map]
  refine ⟨⟨by omega, by omega⟩, ?_⟩
  rw [Int.toNat_natCast]
  refine lcA (fun (i : Nat) => .int ((0 : Int) + i)) (List.range S.tbl.length) (fun st => natssD (leadL S lot st)) rfl (fun _ _ => trivial) (fun st hst h1 s1 R hR => ?_) (by rw [List.length_range]; omega) ?_
  · walk_at "dgo"
    refine recv_self ((me _).sub s1) (no _ (by decide +kernel)) ?_
    rw [Int.zero_add]
    exact ⟨S, k, lot, _, st, (me _).sub s1, sf1_take (by decide), rfl, (qs _).sub s1, lo, List.mem_range.mp hst, hR⟩
  refine insAt_of put_same ⟨(hA T.n_Split_lead), tk _, ?_⟩
  rw [put_put, put_step split_nd (rfl : (splitFs T.Cm S k lot .non .non)[9]? = _)]
  refine qf T.n_Question_table (lk_table S k) ?_
  unfold tblD
  walk_at "dgo"
  refine lcA rowD S.tbl (fun e => .bl e.1) rfl (fun _ _ => trivial) (fun e he h1 s1 R hR => ?_) (by omega) ?_
  · unfold rowD
    walk_at "dgo"
    exact hR
  rw [show (D.rol (S.tbl.map fun e => D.bl e.1)) = .rol ((flagL S).map .bl) by unfold flagL; rw [List.map_map]; rfl]
  refine insAt_of put_same ⟨(hA T.n_Split_flags), tk _, ?_⟩
  rw [put_put, put_step split_nd (rfl : (splitFs T.Cm S k lot .non .non)[10]? = _)]
  refine recv_self (me _) (no _ (by decide +kernel)) ?_
  refine ⟨S, k, lot, _, me _, sf3_take (by decide), no _ (by decide +kernel), no _ (by decide +kernel), ok, lo, fun u hu => ?_⟩
  refine insAt_of put_same ⟨(hA T.n_Split_unlike), tk _, ?_⟩
  rw [put_put, show (splitFs T.Cm S k lot .non .non).take 11 = (splitFs T.Cm S k lot u .non).take 11 from rfl, put_step split_nd (rfl : (splitFs T.Cm S k lot u .non)[11]? = _)]
  have me2 : SelfAt (put h s (.ins T.C_Split ((splitFs T.Cm S k lot u .non).take 12))) (.ref s) T.C_Split ((splitFs T.Cm S k lot u .non).take 12) := .inl ⟨s, rfl, put_same⟩
  refine recv_self me2 (split_no (by decide +kernel) _) ?_
  refine ⟨S, k, lot, _, me2, sf3_take (by decide), split_no (by decide +kernel) _, split_no (by decide +kernel) _, ok, lo, fun p hp => ?_⟩
  refine insAt_of put_same ⟨(hA T.n_Split_partable), ?_, ?_⟩
  · rw [List.length_take]
    exact Nat.lt_of_le_of_lt (Nat.min_le_left _ _) (by decide)
  rw [put_put, show (splitFs T.Cm S k lot u .non).take 12 = (splitFs T.Cm S k lot u p).take 12 from rfl, put_step split_nd (rfl : (splitFs T.Cm S k lot u p)[12]? = _)]
  exact Wk.of (q u p hu hp)
end
end My
namespace My
open PySem PySem.Spec PyProof.Rows L2 DL
def sp_words_in : DSp := sp2 fun a b h P => ∃ (cs : List (List Nat)) (n : Nat), a = .rol (cs.map encC) ∧ b = nD n ∧ n ≤ 4 ∧ (∀ c ∈ cs, c.length = n) ∧ cs.length ≤ 40000 ∧ P (wordsD (wordsIn cs n)) h
section
variable {P : Program} {w : World} {K : PySem.W.Frag} {mg : Str → Option Value} {base : Heap}
theorem ok_words_in (T : Txt K mg) : DFn P w K mg base 1 T.a_words_in T.d_words_in ["listed", "many"] sp_words_in := by
  refine dfn2 T.F_words_in sc_words_in rfl (fun cdv A outer s H E hr => ⟨_, (dss_one (ds_ret (de_callTy call_dTupOf (by rfl) T.b_tuple (by decide +kernel) (da_cons (de_frz (de_lc (own := [("row", 2)]) rfl sc_words_in.nd (di_range1 (by rfl) T.b_range (da_cons (de_var 1) da_nil)) (blkOk_by (N := ["listed", "many", "row", "column"]) (sc := defScope s_words_in) (own := [("row", 2)]) (by decide +kernel)) (by decide) (fun _ _ _ _ _ => (dg_name (i := 2) sc_words_in.nd rfl (by first | exact Or.inl rfl | exact Or.inr rfl))) (fun _ _ _ _ _ => dts_nil) (fun _ _ _ _ _ => (de_ms PySem.F.slot_str_join PySem.F.type_str_join mt_dJoin de_str (de_frz (de_lc (own := [("column", 3)]) rfl sc_words_in.nd (di_list (de_var 0)) (blkOk_by (N := ["listed", "many", "row", "column"]) (own := [("column", 3)]) (by rfl)) (by decide) (fun _ _ _ _ _ => (dg_name (i := 3) sc_words_in.nd rfl (by first | exact Or.inl rfl | exact Or.inr rfl))) (fun _ _ _ _ _ => (dts_one (dt_cmp (op_dNeA hr.units) (de_ix (de_var 3) (de_var 2)) (de_gStr (by rfl) T.k_GONE) (nomark _)))) (fun _ _ _ _ _ => (de_ix (de_var 3) (de_var 2))))))))) da_nil)))), fun p0 p1 h Q q => ?_⟩)
  rw [show dstart ["listed", "many", "row", "column"] [p0, p1] = [some p0, some p1, none, none] from rfl]
  obtain ⟨cs, n, rfl, rfl, n4, hc, hl, q⟩ := q
  have line81 := line81
  have lineB : 40000 ≤ sizeLine := by rw [sizeLine_eq]; decide
  walk_at "dgo"
  refine ⟨⟨by omega, by omega⟩, ?_⟩
  rw [Int.toNat_natCast]
  refine lcA (fun (i : Nat) => .int ((0 : Int) + i)) (List.range n) (fun i => .str (mkS ((cs.filter fun c => decide (c.getD i 45 ≠ 45)).map fun c => c.getD i 45))) rfl (fun _ _ => trivial) (fun i hi h1 s1 R hR => ?_) (by rw [List.length_range]; omega) ?_
  · have hi := List.mem_range.mp hi
    walk_at "dgo"
    refine lcF encC cs (fun c => .str (chS (c.getD i 45))) (fun c => decide (c.getD i 45 ≠ 45)) rfl (fun _ _ => trivial) (fun c hcm h2 s2 R2 R2' hR2 hR2' => ?_) (by omega) ?_
    · have hlc := hc c hcm
      have e1 : atI (c.map sgD) ((0 : Int) + (i : Int)) = some (sgD (c.getD i 45)) := by
        rw [Int.zero_add]
        exact map_at sgD (getD_some 45 (by omega))
      unfold encC
      walk_at "dgo"
      rw [e1]
      unfold sgD
      walk_at "dgo"
      rw [show decide ((⟨#[c.getD i 45]⟩ : Str) = Str.ofString "-") = decide (c.getD i 45 = 45) from sgn_dec _ 45 "-" rfl]
      cases e : decide (c.getD i 45 = 45) with
      | true =>
        walk_at "dgo"
        exact hR2' (by simpa using e)
      | false =>
        walk_at "dgo"
        exact hR2 (by simpa using e)
    walk_at "dgo"
    have hlen : ((cs.filter fun c => decide (c.getD i 45 ≠ 45)).map fun c => c.getD i 45).length ≤ 40000 := by
      rw [List.length_map]
      exact Nat.le_trans (List.length_filter_le _ _) hl
    have e2 : (cs.filter fun c => decide (c.getD i 45 ≠ 45)).map (fun c => chS (c.getD i 45)) = ((cs.filter fun c => decide (c.getD i 45 ≠ 45)).map fun c => c.getD i 45).map chS := by rw [List.map_map]; rfl
    rw [e2]
    generalize ((cs.filter fun c => decide (c.getD i 45 ≠ 45)).map fun c => c.getD i 45) = xs at hlen hR ⊢
    refine ⟨?_, by rw [join_mk]; exact hR⟩
    have e3 : ∀ ys : List Nat, (List.map (fun x => Str.length x) (ys.map chS)).sum = ys.length := fun ys => by
      induction ys with
      | nil => rfl
      | cons y r ih => rw [List.map_cons, List.map_cons, List.sum_cons, ih, List.length_cons]; show 1 + _ = _; omega
    rw [e3, List.length_map, show Str.length ("" : Str) = 0 from rfl]
    omega
  walk_at "dgo"
  unfold wordsD wordsIn at q
  rw [List.map_map] at q
  exact Wk.of q
end
end My
namespace My
open PySem PySem.Spec PyProof.Rows L2 DL
def sp_Split_numbers_of (C : Nat → Addr) : DSp := sp2 fun a b h P => ∃ (S : Qs) (k : Addr) (lot : List Nat) (fs : List (Str × D)) (ws : List Str), SelfAt h a (C 1) fs ∧ SF1 C S k lot fs ∧ b = wordsD ws ∧ S.Ok ∧ LotOk S.r lot ∧ Wds lot.length S.l ws ∧ P (natsD (numsOf S.l ws)) h
section
variable {P : Program} {w : World} {K : PySem.W.Frag} {mg : Str → Option Value} {base : Heap}
theorem ok_Split_numbers_of (T : Txt K mg) : DFn P w K mg base 1 T.a_Split_numbers_of T.d_Split_numbers_of ["self", "words"] (sp_Split_numbers_of T.Cm) := by
  refine dfn2 T.F_Split_numbers_of sc_Split_numbers_of rfl (fun cdv A outer s H E hr => ⟨_, (dss_cons (ds_set (i := 2) sc_Split_numbers_of.nd rfl (by first | exact Or.inl rfl | exact Or.inr rfl) (de_lst da_nil))
  (dss_cons (ds_for PassesOwn.never rfl (di_range1 (by rfl) T.b_range (da_cons (de_callB (call_dMax rfl) (by rfl) T.b_max (by decide +kernel) (da_cons (de_frz (de_lc (own := [("word", 5)]) rfl sc_Split_numbers_of.nd (di_tup (de_var 1)) (blkOk_by (N := ["self", "words", "found", "place", "column", "word"]) (sc := defScope s_Split_numbers_of) (own := [("word", 5)]) (by decide +kernel)) (by decide) (fun _ _ _ _ _ => (dg_name (i := 5) sc_Split_numbers_of.nd rfl (by first | exact Or.inl rfl | exact Or.inr rfl))) (fun _ _ _ _ _ => dts_nil) (fun _ _ _ _ _ => (de_callB call_dLen (by rfl) T.b_len (by decide +kernel) (da_cons (de_var 5) da_nil))))) da_nil)) da_nil)) (dg_name (i := 3) sc_Split_numbers_of.nd rfl (by first | exact Or.inl rfl | exact Or.inr rfl))
  (dss_cons (ds_set (i := 4) sc_Split_numbers_of.nd rfl (by first | exact Or.inl rfl | exact Or.inr rfl) (de_callTy call_dTupOf (by rfl) T.b_tuple (by decide +kernel) (da_cons (de_frz (de_lc (own := [("word", 5)]) rfl sc_Split_numbers_of.nd (di_tup (de_var 1)) (blkOk_by (N := ["self", "words", "found", "place", "column", "word"]) (sc := defScope s_Split_numbers_of) (own := [("word", 5)]) (by decide +kernel)) (by decide) (fun _ _ _ _ _ => (dg_name (i := 5) sc_Split_numbers_of.nd rfl (by first | exact Or.inl rfl | exact Or.inr rfl))) (fun _ _ _ _ _ => dts_nil) (fun _ _ _ _ _ => (de_ifExp (dt_cmp op_dLt (de_var 3) (de_callB call_dLen (by rfl) T.b_len (by decide +kernel) (da_cons (de_var 5) da_nil)) (nomark _)) (de_ix (de_var 5) (de_var 3)) (de_gStr (by rfl) T.k_GONE))))) da_nil)))
  (dss_one (ds_expr (de_ml PySem.F.slot_list_append PySem.F.type_list_append mt_dAppend (de_var 2) (da_cons (de_ml PySem.F.slot_list_index PySem.F.type_list_index (mt_dIndex (room65 hr)) (de_fldK (K := K) (by rfl) (de_var 0)) (da_cons (de_var 4) da_nil)) da_nil))))))
  (dss_one (ds_ret (de_frz (de_var 2)))))), fun p0 p1 h Q q => ?_⟩)
  rw [show dstart ["self", "words", "found", "place", "column", "word"] [p0, p1] = [some p0, some p1, none, none, none, none] from rfl]
  obtain ⟨S, k, lot, fs, ws, sa, sf, rfl, ok, lo, wd, q⟩ := q
  obtain ⟨w1, w2, w3⟩ := id wd
  have line81 := line81
  have line60 := line60
  have r4 := ok.r4
  have lne := lo.ne
  have lall := lo.all
  have hm := maxLen_le w3
  have fl : ∀ {h' : DH} {f : Str} {v : D} {R : D → Prop}, Sub h h' → NoAttr K T.C_Split f → fs.lookup f = some v → R v → fldAt K p0 h' f R := fun {h' f v R} s n l r => fld_self (sa.sub s) ⟨T.cl_Split, n⟩ l r
  unfold wordsD
  walk_at "dgo"
  intro p np
  refine lcA D.str ws (fun z => .int (z.length : Int)) rfl (fun _ _ => trivial) (fun z hz h1 s1 R hR => ?_) (by omega) ?_
  · have h60 := w3 z hz
    walk_at "dgo"
    exact ⟨by omega, hR⟩
  walk_at "dgo"
  refine ⟨by rw [List.length_map]; omega, ?_⟩
  rw [maxL_len]
  refine ⟨by omega, ?_⟩
  rw [Int.toNat_natCast]
  refine for_pre (fun (i : Nat) => .int ((0 : Int) + i)) (List.range (maxLen ws)) rfl (fun pre σ h' => ∃ v3 v4 : Option D, σ = [some p0, some (.tup (ws.map .str)), some (.ref p), v3, v4, none] ∧ h' = put h p (.lst (pre.map fun i => nD (val (S.l + 1) (colAt ws i))))) ⟨none, none, rfl, rfl⟩ (fun _ _ _ _ => trivial) ?_ ?_
  · rintro pre i post σ h' e ⟨v3, v4, rfl, rfl⟩ nx hnx
    have hpl : pre.length < maxLen ws := by
      have := congrArg List.length e
      rw [List.length_range, List.length_append, List.length_cons] at this
      omega
    have hcol : colAt ws i ∈ cols lot.length (sg S.l) := by rw [← w1]; exact colAt_mem w2 i
    walk_at "dgo"
    refine lcA D.str ws (fun z => sgD (z.cps.toList.getD i 45)) rfl (fun _ _ => trivial) (fun z hz h1 s1 R hR => ?_) (by omega) ?_
    · have h60 := w3 z hz
      walk_at "dgo"
      rw [Int.zero_add]
      refine ⟨by omega, ?_⟩
      by_cases hp : i < z.length
      · rw [decide_eq_true (by omega)]
        walk_at "dgo"
        refine ⟨by omega, ?_⟩
        rw [col_sign z i hp]
        exact hR
      · rw [decide_eq_false (by omega)]
        walk_at "dgo"
        rw [col_gone z i hp] at hR
        exact hR
    walk_at "dgo"
    refine lstAt_of put_same (fl (Sub.new np) T.n_Split_lot_columns sf.lcs ?_)
    unfold colsD
    walk_at "dgo"
    refine ⟨val (S.l + 1) (colAt ws i), ⟨?_, cmp_cols (l := S.l) fun c hc => (cols_mem.mp hc).2⟩, ?_, fun m hm e2 => ?_, ?_⟩
    · have z := cmp_col (cols_mem.mp hcol).2
      unfold encC colAt at z
      rw [List.map_map] at z
      exact z
    · rw [List.getElem?_map, cols_at ok.l2 hcol]
      unfold encC colAt
      rw [Option.map_some, List.map_map]
      rfl
    · rw [List.getElem?_map] at e2
      obtain ⟨c, hc, e3⟩ := Option.map_eq_some_iff.mp e2
      have e4 : c = colAt ws i := encC_inj (by rw [e3]; unfold encC colAt; rw [List.map_map]; rfl)
      have e5 := cols_val ok.l2 hc
      rw [e4] at e5
      omega
    · refine lstAt_of put_same ⟨by rw [List.length_map]; omega, ?_⟩
      refine hnx _ _ ⟨_, _, rfl, ?_⟩
      rw [put_put, List.map_append]
      rfl
  · rintro σ h' ⟨v3, v4, rfl, rfl⟩
    walk_at "dgo"
    rw [frz_new np]
    unfold natsD numsOf at q
    rw [List.map_map] at q
    exact Wk.of q
end
end My
namespace My
open PySem PySem.Spec PyProof.Rows L2 DL
def sp_Split_other_words (C : Nat → Addr) : DSp := sp2 fun a b h P => ∃ (S : Qs) (k : Addr) (lot : List Nat) (fs : List (Str × D)) (ns : List Nat), SelfAt h a (C 1) fs ∧ SF1 C S k lot fs ∧ b = natsD ns ∧ S.Ok ∧ LotOk S.r lot ∧ (∀ n ∈ ns, n < (othC S lot).length) ∧ ns.length ≤ 40000 ∧
  P (wordsD (wordsIn (ns.map fun n => (othC S lot).getD n []) (othersOf S.r lot).length)) h
section
variable {P : Program} {w : World} {K : PySem.W.Frag} {mg : Str → Option Value} {base : Heap}
theorem ok_Split_other_words (T : Txt K mg) : DFn P w K mg base 2 T.a_Split_other_words T.d_Split_other_words ["self", "numbers"] (sp_Split_other_words T.Cm) := by
  refine dfn2 T.F_Split_other_words sc_Split_other_words rfl (fun cdv A outer s H E hr => ⟨_, (dss_one (ds_ret (de_call (ok_words_in T) (hr.mono (by decide)) (by rfl) T.m_words_in T.F_words_in.kp T.b_words_in (da_cons (de_frz (de_lc (own := [("number", 2)]) rfl sc_Split_other_words.nd (di_list (de_var 1)) (blkOk_by (N := ["self", "numbers", "number"]) (sc := defScope s_Split_other_words) (own := [("number", 2)]) (by decide +kernel)) (by decide) (fun _ _ _ _ _ => (dg_name (i := 2) sc_Split_other_words.nd rfl (by first | exact Or.inl rfl | exact Or.inr rfl))) (fun _ _ _ _ _ => dts_nil) (fun _ _ _ _ _ => (de_ix (de_fldK (K := K) (by rfl) (de_var 0)) (de_var 2))))) (da_cons (de_callB call_dLen (by rfl) T.b_len (by decide +kernel) (da_cons (de_fldK (K := K) (by rfl) (de_var 0)) da_nil)) da_nil))))), fun p0 p1 h Q q => ?_⟩)
  rw [show dstart ["self", "numbers", "number"] [p0, p1] = [some p0, some p1, none] from rfl]
  obtain ⟨S, k, lot, fs, ns, sa, sf, rfl, ok, lo, hn, hl, q⟩ := q
  have lineB : 40000 ≤ sizeLine := by rw [sizeLine_eq]; decide
  have hol := others_len lo
  have r4 := ok.r4
  have fl : ∀ {h' : DH} {f : Str} {v : D} {R : D → Prop}, Sub h h' → NoAttr K T.C_Split f → fs.lookup f = some v → R v → fldAt K p0 h' f R := fun {h' f v R} s n l r => fld_self (sa.sub s) ⟨T.cl_Split, n⟩ l r
  unfold natsD
  walk_at "dgo"
  refine lcA nD ns (fun n => encC ((othC S lot).getD n [])) rfl (fun _ _ => trivial) (fun n hnm h1 s1 R hR => ?_) (by omega) ?_
  · walk_at "dgo"
    refine fl s1 T.n_Split_other_columns sf.ocs ?_
    unfold colsD
    walk_at "dgo"
    exact oAt_of (map_at encC (getD_some [] (hn n hnm))) hR
  refine fl (Sub.refl h) T.n_Split_others sf.others ?_
  unfold lotD
  walk_at "dgo"
  rw [List.length_map]
  refine ⟨ns.map fun n => (othC S lot).getD n [], (othersOf S.r lot).length, by rw [List.map_map]; rfl, rfl, by have := lo.ne; omega, fun c hc => ?_, by rw [List.length_map]; exact hl, Wk.of q⟩
  obtain ⟨n, hnm, rfl⟩ := List.mem_map.mp hc
  have : (othC S lot).getD n [] ∈ othC S lot := List.mem_of_getElem? (getD_some [] (hn n hnm))
  exact (cols_mem.mp this).1
end
end My
namespace My
open PySem PySem.Spec PyProof.Rows L2 DL
def sp_at_or_none : DSp := sp2 fun a b h P => ∃ (ns : List Nat) (p : Nat), a = natsD ns ∧ b = nD p ∧ P (nD (ns.getD p 0)) h
section
variable {P : Program} {w : World} {K : PySem.W.Frag} {mg : Str → Option Value} {base : Heap}
theorem ok_at_or_none (T : Txt K mg) : DFn P w K mg base 1 T.a_at_or_none T.d_at_or_none ["numbers", "place"] sp_at_or_none := by
  refine dfn2 T.F_at_or_none sc_at_or_none rfl (fun cdv A outer s H E hr => ⟨_, (dss_one (ds_ret (de_ifExp (dt_cmp op_dLt (de_var 1) (de_callB call_dLen (by rfl) T.b_len (by decide +kernel) (da_cons (de_var 0) da_nil)) (nomark _)) (de_ix (de_var 0) (de_var 1)) de_int))), fun p0 p1 h Q q => ?_⟩)
  rw [show dstart ["numbers", "place"] [p0, p1] = [some p0, some p1] from rfl]
  obtain ⟨ns, p, rfl, rfl, q⟩ := q
  unfold natsD
  walk_at "dgo"
  rw [List.length_map]
  by_cases hp : p < ns.length
  · rw [decide_eq_true (by omega)]
    walk_at "dgo"
    exact oAt_of (map_at nD (getD_some 0 hp)) (Wk.of q)
  · rw [decide_eq_false (by omega)]
    walk_at "dgo"
    rw [List.getD_eq_getElem?_getD, List.getElem?_eq_none (by omega)] at q
    exact Wk.of q
end
end My
namespace My
open PySem PySem.Spec PyProof.Rows L2 DL
def sp_way_back : DSp := sp2 fun a b h P => ∃ (kvs : List (D × D)) (ws : List D), DctIs h a kvs ∧ Back kvs b ws ∧ ws.length ≤ 1000000 ∧ P (.rol ws.reverse) h
section
variable {P : Program} {w : World} {K : PySem.W.Frag} {mg : Str → Option Value} {base : Heap}
theorem ok_way_back (T : Txt K mg) : DFn P w K mg base 1 T.a_way_back T.d_way_back ["came", "node"] sp_way_back := by
  refine dfn2 T.F_way_back sc_way_back rfl (fun cdv A outer s H E hr => ⟨_, (dss_cons (ds_set (i := 2) sc_way_back.nd rfl (by first | exact Or.inl rfl | exact Or.inr rfl) (de_lst da_nil))
  (dss_cons (ds_while PassesOwn.never (dt_cmp op_dIsNot (de_ixD hr.units (de_var 0) (de_var 1)) de_non (nomark _))
  (dss_cons (ds_asg (de_ixD hr.units (de_var 0) (de_var 1)) (dg_tup (n := 2) rfl (dgs_cons (dg_name (i := 1) sc_way_back.nd rfl (by first | exact Or.inl rfl | exact Or.inr rfl)) (dgs_cons (dg_name (i := 3) sc_way_back.nd rfl (by first | exact Or.inl rfl | exact Or.inr rfl)) dgs_nil))))
  (dss_one (ds_expr (de_ml PySem.F.slot_list_append PySem.F.type_list_append mt_dAppend (de_var 2) (da_cons (de_var 3) da_nil))))))
  (dss_one (ds_ret (de_frz (de_rev (de_var 2))))))), fun p0 p1 h Q q => ?_⟩)
  rw [show dstart ["came", "node", "found", "what"] [p0, p1] = [some p0, some p1, none, none] from rfl]
  obtain ⟨kvs, ws, hd, hb, hl, q⟩ := q
  have lineB : 1000001 ≤ sizeLine := by rw [sizeLine_eq]; decide
  walk_at "dgo"
  intro p np
  have sn : ∀ o, Sub h (put h p o) := fun o => Sub.new np
  refine wh_inv (fun n σ h' => ∃ (d : D) (v3 : Option D) (done rest : List D), σ = [some p0, some d, some (.ref p), v3] ∧ h' = put h p (.lst done) ∧ Back kvs d rest ∧ ws = done ++ rest ∧ n = rest.length) (n := _) ⟨p1, none, [], ws, rfl, rfl, hb, rfl, rfl⟩ ?_
  rintro n σ h' ⟨d, v3, done, rest, rfl, rfl, bk, e, rfl⟩ nx hnx
  have hdl : done.length ≤ 1000000 := by
    rw [e, List.length_append] at hl
    omega
  walk_at "dgo"
  cases bk with
  | stop kx e1 =>
    refine dctV_of (hd.sub (sn _)) ⟨kx, ?_⟩
    rw [e1]
    walk_at "dgo"
    refine lstAt_of put_same ?_
    refine frsh ?_
    rw [List.append_nil] at e
    rw [← e]
    exact Wk.to (sn _) q
  | @step n' d' w rest kx e1 bk =>
    refine dctV_of (hd.sub (sn _)) ⟨kx, ?_⟩
    rw [e1]
    walk_at "dgo"
    refine dctV_of (hd.sub (sn _)) ⟨kx, ?_⟩
    rw [e1]
    walk_at "dgo"
    refine lstAt_of put_same ?_
    refine lstAt_of put_same ⟨by omega, ?_⟩
    rw [put_put]
    exact hnx rest.length _ _ (by rw [List.length_cons]; omega) ⟨d', _, done ++ [w], rest, rfl, rfl, bk, by rw [e, List.append_assoc]; rfl, rfl⟩
end
end My
namespace My
open PySem PySem.Spec PyProof.Rows L2 DL
def optD : Option (List Nat) → D
  | none => .non
  | some l => natsD l
def sp_Split_parted (C : Nat → Addr) : DSp := sp3 fun a b c h P => ∃ (S : Qs) (k : Addr) (lot : List Nat) (fs : List (Str × D)) (w1 w2 : List Nat), SelfAt h a (C 1) fs ∧ SF3 C S k lot fs ∧ fs.lookup ("after" : Str) = none ∧ b = natsD w1 ∧ c = natsD w2 ∧ S.Ok ∧ LotOk S.r lot ∧
  (∀ x ∈ w1, x < (lotC S lot).length) ∧ (∀ x ∈ w2, x < (lotC S lot).length) ∧ w1.length ≤ 60 ∧ w2.length ≤ 60 ∧ P (optD (partedR S lot w1 w2)) h
section
variable {P : Program} {w : World} {K : PySem.W.Frag} {mg : Str → Option Value} {base : Heap}
theorem ok_Split_parted (T : Txt K mg) : DFn P w K mg base 2 T.a_Split_parted T.d_Split_parted ["self", "first", "second"] (sp_Split_parted T.Cm) := by
  refine dfn3 T.F_Split_parted sc_Split_parted rfl (fun cdv A outer s H E hr => ⟨_, (dss_cons (ds_set (i := 3) sc_Split_parted.nd rfl (by first | exact Or.inl rfl | exact Or.inr rfl) (de_callB (call_dMax rfl) (by rfl) T.b_max (by decide +kernel) (da_cons (de_callB call_dLen (by rfl) T.b_len (by decide +kernel) (da_cons (de_var 1) da_nil)) (da_cons (de_callB call_dLen (by rfl) T.b_len (by decide +kernel) (da_cons (de_var 2) da_nil)) da_nil))))
  (dss_cons (ds_set (i := 4) sc_Split_parted.nd rfl (by first | exact Or.inl rfl | exact Or.inr rfl) (de_dict1 hr.units (de_tup (da_cons de_int (da_cons (de_tup (da_cons de_int (da_cons de_int (da_cons de_int da_nil)))) da_nil))) de_non))
  (dss_cons (ds_set (i := 5) sc_Split_parted.nd rfl (by first | exact Or.inl rfl | exact Or.inr rfl) (de_lst (da_cons (de_tup (da_cons de_int (da_cons (de_tup (da_cons de_int (da_cons de_int (da_cons de_int da_nil)))) da_nil))) da_nil)))
  (dss_cons (ds_set (i := 6) sc_Split_parted.nd rfl (by first | exact Or.inl rfl | exact Or.inr rfl) de_int)
  (dss_cons (ds_while PassesOwn.never (dt_cmp op_dLt (de_var 6) (de_callB call_dLen (by rfl) T.b_len (by decide +kernel) (da_cons (de_var 5) da_nil)) (nomark _))
  (dss_cons (ds_set (i := 7) sc_Split_parted.nd rfl (by first | exact Or.inl rfl | exact Or.inr rfl) (de_ix (de_var 5) (de_var 6)))
  (dss_cons (ds_aug (i := 6) sc_Split_parted.nd rfl (by first | exact Or.inl rfl | exact Or.inr rfl) de_int op_iAdd)
  (dss_cons (ds_asg (de_var 7) (dg_tup (n := 2) rfl (dgs_cons (dg_name (i := 8) sc_Split_parted.nd rfl (by first | exact Or.inl rfl | exact Or.inr rfl)) (dgs_cons (dg_name (i := 9) sc_Split_parted.nd rfl (by first | exact Or.inl rfl | exact Or.inr rfl)) dgs_nil))))
  (dss_cons (ds_if (dw_and (dt_cmp (op_dEqA hr.units) (de_var 8) (de_var 3) (nomark _)) (dw_and1 (dt_cmp (op_dNeA hr.units) (de_ix (de_fldK (K := K) (by rfl) (de_var 0)) (de_ix (de_var 9) de_int)) (de_ix (de_fldK (K := K) (by rfl) (de_var 0)) (de_ix (de_var 9) de_int)) (nomark _)))).dt
  (dss_one (ds_ret (de_call (ok_way_back T) (hr.mono (by decide)) (by rfl) T.m_way_back T.F_way_back.kp T.b_way_back (da_cons (de_var 4) (da_cons (de_var 7) da_nil)))))
  dss_nil)
  (dss_cons (ds_set (i := 10) sc_Split_parted.nd rfl (by first | exact Or.inl rfl | exact Or.inr rfl) (de_tup (da_cons (de_call (ok_at_or_none T) (hr.mono (by decide)) (by rfl) T.m_at_or_none T.F_at_or_none.kp T.b_at_or_none (da_cons (de_var 1) (da_cons (de_var 8) da_nil))) (da_cons (de_call (ok_at_or_none T) (hr.mono (by decide)) (by rfl) T.m_at_or_none T.F_at_or_none.kp T.b_at_or_none (da_cons (de_var 2) (da_cons (de_var 8) da_nil))) da_nil))))
  (dss_cons (ds_set (i := 11) sc_Split_parted.nd rfl (by first | exact Or.inl rfl | exact Or.inr rfl) (de_meth (de_var 0) T.cl_Split T.me_Split_after (ok_Split_after T) (hr.mono (by decide)) T.b_Split_after (da_cons (de_var 9) (da_cons (de_ix (de_var 10) de_int) (da_cons (de_ix (de_var 10) de_int) da_nil)))))
  (dss_one (ds_for PassesOwn.never rfl (di_zip (by rfl) T.b_zip (da_cons (de_ix (de_fldK (K := K) (by rfl) (de_var 0)) (de_ix (de_var 9) de_int)) (da_cons (de_var 11) da_nil))) (dg_tup (n := 2) rfl (dgs_cons (dg_name (i := 12) sc_Split_parted.nd rfl (by first | exact Or.inl rfl | exact Or.inr rfl)) (dgs_cons (dg_name (i := 13) sc_Split_parted.nd rfl (by first | exact Or.inl rfl | exact Or.inr rfl)) dgs_nil)))
  (dss_cons (ds_set (i := 14) sc_Split_parted.nd rfl (by first | exact Or.inl rfl | exact Or.inr rfl) (de_tup (da_cons (de_callB (call_dMin rfl) (by rfl) T.b_min (by decide +kernel) (da_cons (de_var 3) (da_cons (de_op op_dAdd (de_var 8) de_int) da_nil))) (da_cons (de_var 13) da_nil))))
  (dss_one (ds_if (dt_cmp (op_dNotInA hr.units) (de_var 14) (de_var 4) (by rfl))
  (dss_cons (ds_asg (de_tup (da_cons (de_var 7) (da_cons (de_var 12) da_nil))) (dg_sub (de_var 4) (de_var 14) (set_dD hr.units)))
  (dss_one (ds_expr (de_ml PySem.F.slot_list_append PySem.F.type_list_append mt_dAppend (de_var 5) (da_cons (de_var 14) da_nil)))))
  dss_nil))))))))))))
  (dss_one (ds_ret de_non))))))), fun p0 p1 p2 h Q q => ?_⟩)
  rw [show dstart ["self", "first", "second", "whole", "came", "waiting", "number", "node", "place", "triple", "columns_now", "later", "at", "more", "goal"] [p0, p1, p2] = [some p0, some p1, some p2, none, none, none, none, none, none, none, none, none, none, none, none] from rfl]
  obtain ⟨S, k, lot, fs, w1, w2, sa, sf, na, rfl, rfl, ok, lo, h1, h2, l1, l2, q⟩ := q
  have lineB : 1000000 ≤ sizeLine := by rw [sizeLine_eq]; decide
  have og := othG_small ok lo
  have wl : whl w1 w2 ≤ 60 := by unfold whl; omega
  have an := allNd_len (w1 := w1) (w2 := w2) ok lo
  have an2 : (allNd S lot w1 w2).length ≤ 40000 := by
    have := Nat.mul_le_mul_right 512 (show whl w1 w2 + 1 ≤ 61 by omega)
    omega
  have fl : ∀ {h' : DH} {f : Str} {v : D} {R : D → Prop}, Sub h h' → NoAttr K T.C_Split f → fs.lookup f = some v → R v → fldAt K p0 h' f R := fun {h' f v R} s n l r => fld_self (sa.sub s) ⟨T.cl_Split, n⟩ l r
  have at_ : ∀ (w : List Nat) (p : Nat), (∀ x ∈ w, x < (lotC S lot).length) → w.getD p 0 < (lotC S lot).length := fun w p hw => by
    rw [List.getD_eq_getElem?_getD]
    cases e : w[p]? with
    | none => exact lotC_ne _ _
    | some x => exact hw x (List.mem_of_getElem? e)
  unfold natsD
  walk_at "dgo"
  rw [List.length_map, List.length_map, show (if ((w2.length : Nat) : Int) > ((w1.length : Nat) : Int) then ((w2.length : Nat) : Int) else ((w1.length : Nat) : Int)) = ((whl w1 w2 : Nat) : Int) by unfold whl; split <;> omega]
  intro p1 np1
  refine dctAt_of put_same ⟨⟨key_node startN, by decide +kernel⟩, fun p2 np2 => ?_⟩
  have n12 : p1 ≠ p2 := ne_none put_same (by rw [put_put] at np2; exact np2)
  have np2h : h p2 = none := by
    rw [put_put, put_ne n12.symm] at np2
    exact np2
  have sH : ∀ o u, Sub h (put (put h p1 o) p2 u) := fun o u => (Sub.new np1).trans (Sub.new (by rw [put_ne n12.symm]; exact np2h))
  have start : put (put (put h p1 (.dct [])) p1 (.dct (dput [] (nodeD startN) .non))) p2 (.lst [nodeD startN]) = put (put h p1 (.dct ([((startN, none) : Nd × Option (Nd × Nat))].map entD))) p2 (.lst ([((startN, none) : Nd × Option (Nd × Nat))].map fun e => nodeD e.1)) := by
    rw [put_put, dput_new (dlook_nil _)]
    rfl
  refine Eq.mp (congrArg (fun z => sWhile _ _ _ _ z) start.symm) ?_
  refine wh_inv (fun n σ h' => ∃ (W : Wt) (i : Nat) (v7 v8 v9 v10 v11 v12 v13 v14 : Option D), σ = [some p0, some (natsD w1), some (natsD w2), some (nD (whl w1 w2)), some (.ref p1), some (.ref p2), some (nD i), v7, v8, v9, v10, v11, v12, v13, v14] ∧
    h' = put (put h p1 (.dct (W.map entD))) p2 (.lst (W.map fun e => nodeD e.1)) ∧ BOk S lot w1 w2 W i ∧ n + i = (allNd S lot w1 w2).length + 1 ∧ bfs S lot w1 w2 n W i = partedR S lot w1 w2) (n := _) ⟨[(startN, none)], 0, none, none, none, none, none, none, none, none, rfl, rfl, bok_start ok, rfl, rfl⟩ ?_
  rintro n σ h' ⟨W, i, v7, v8, v9, v10, v11, v12, v13, v14, rfl, rfl, b, hn, hR⟩ nx hnx
  have bl := b.len
  have ble := b.le
  obtain ⟨m, rfl⟩ : ∃ m, n = m + 1 := ⟨n - 1, by omega⟩
  walk_at "dgo"
  refine lstAt_of put_same ?_
  rw [List.length_map]
  by_cases hi : i < W.length
  · rw [decide_eq_true (by omega)]
    walk_at "dgo"
    refine lstAt_of put_same ?_
    obtain ⟨⟨⟨pl, a, b', e'⟩, o⟩, e⟩ : ∃ e, W[i]? = some e := ⟨_, List.getElem?_eq_getElem hi⟩
    rw [bfs, e] at hR
    dsimp only at hR
    have nok := b.ok _ (List.mem_of_getElem? e)
    have ta : a < S.tbl.length := nok.tr.a
    have tb : b' < S.tbl.length := nok.tr.b
    have te : e' ≤ (othG S lot).headD 0 := nok.tr.e
    have hpl : pl ≤ whl w1 w2 := nok.pl
    refine oAt_of (map_at (fun e : Nd × Option (Nd × Nat) => nodeD e.1) e) ?_
    rw [show nodeD (pl, a, b', e') = .tup [nD pl, .tup [nD a, nD b', nD e']] from rfl]
    walk_at "dgo"
    rw [nD_dec]
    by_cases hg : isGoal S w1 w2 (pl, a, b', e')
    · rw [if_pos hg] at hR
      have g1 : pl = whl w1 w2 := hg.1
      have g2 : flg S a ≠ flg S b' := hg.2
      rw [decide_eq_true g1]
      walk_at "dgo"
      refine fl (sH _ _) T.n_Split_flags sf.flags ?_
      walk_at "dgo"
      refine oAt_of (flag_at ta) (fl (sH _ _) T.n_Split_flags sf.flags ?_)
      walk_at "dgo"
      refine oAt_of (flag_at tb) ?_
      walk_at "dgo"
      rw [decide_eq_false g2]
      walk_at "dgo"
      refine ⟨W.map entD, (backL W W.length (pl, a, b', e')).map nD, .inl ⟨p1, rfl, .inl (by rw [put_ne n12]; exact put_same)⟩, back_told b i _ o _ e hi, ?_, ?_⟩
      · rw [List.length_map]
        have := back_len (W := W) W.length (pl, a, b', e')
        omega
      · rw [← hR] at q
        have q2 : Q (.rol ((backL W W.length (pl, a, b', e')).reverse.map nD)) h := q
        rw [List.map_reverse] at q2
        exact Wk.to (sH _ _) q2
    rw [if_neg hg] at hR
    have ht : pl ≠ whl w1 w2 ∨ (pl = whl w1 w2 ∧ flg S a = flg S b') := by
      by_cases h1 : pl = whl w1 w2
      · by_cases h2 : flg S a = flg S b'
        · exact .inr ⟨h1, h2⟩
        · exact absurd ⟨h1, h2⟩ hg
      · exact .inl h1
    rcases ht with hp | ⟨hp, hf⟩
    case' inl =>
      rw [decide_eq_false hp]
      walk_at "dgo"
    case' inr =>
      rw [decide_eq_true hp]
      walk_at "dgo"
      refine fl (sH _ _) T.n_Split_flags sf.flags ?_
      walk_at "dgo"
      refine oAt_of (flag_at ta) (fl (sH _ _) T.n_Split_flags sf.flags ?_)
      walk_at "dgo"
      refine oAt_of (flag_at tb) ?_
      walk_at "dgo"
      rw [decide_eq_true hf]
      walk_at "dgo"
    all_goals
      refine ⟨w1, pl, rfl, rfl, ?_⟩
      refine ⟨w2, pl, rfl, rfl, ?_⟩
      walk_at "dgo"
      refine recv_self (sa.sub (sH _ _)) na ?_
      refine ⟨S, k, lot, fs, (a, b', e'), w1.getD pl 0, w2.getD pl 0, sa.sub (sH _ _), sf, rfl, rfl, rfl, ok, lo, nok.tr, at_ _ _ h1, at_ _ _ h2, ?_⟩
      refine fl (sH _ _) T.n_Split_other_open sf.oopen ?_
      unfold natssD
      walk_at "dgo"
      refine oAt_of (map_at natsD (getD_some [] (show e' < (opensOf (othG S lot)).length by unfold opensOf; rw [List.length_map, List.length_range]; omega))) ?_
      unfold natsD
      walk_at "dgo"
      have ep : pairs (((opensOf (othG S lot)).getD e' []).map nD) ((aftL S lot (a, b', e') (w1.getD pl 0) (w2.getD pl 0)).map triD) = (opn2 S lot e').map fun c => .tup [nD c, triD (ld S lot a (w1.getD pl 0) c, ld S lot b' (w2.getD pl 0) c, gn2 S lot c)] := by
        unfold pairs aftL opn2
        rw [List.map_map, List.zipWith_map, List.zipWith_self]
        rfl
      refine for_pre (fun c => .tup [nD c, triD (ld S lot a (w1.getD pl 0) c, ld S lot b' (w2.getD pl 0) c, gn2 S lot c)]) (opn2 S lot e') ep (fun pre σ h' => ∃ (v12 v13 v14 : Option D), σ = [some p0, some (natsD w1), some (natsD w2), some (nD (whl w1 w2)), some (.ref p1), some (.ref p2), some (.int ((i : Int) + 1)), some (nodeD (pl, a, b', e')), some (nD pl), some (triD (a, b', e')), some (.tup [nD (w1.getD pl 0), nD (w2.getD pl 0)]), some (.rol ((aftL S lot (a, b', e') (w1.getD pl 0) (w2.getD pl 0)).map triD)), v12, v13, v14] ∧
        h' = put (put h p1 (.dct ((addAll S lot w1 w2 (pl, a, b', e') W pre).map entD))) p2 (.lst ((addAll S lot w1 w2 (pl, a, b', e') W pre).map fun e => nodeD e.1))) ⟨v12, v13, v14, rfl, rfl⟩ (fun _ _ _ _ => trivial) ?_ ?_
      · rintro pre c post σ h' ec ⟨v12, v13, v14, rfl, rfl⟩ nx2 hnx2
        have hc : c ∈ opn2 S lot e' := by rw [ec]; exact List.mem_append_right _ List.mem_cons_self
        have mid : BMid S lot w1 w2 W i (pl, a, b', e') [] := ⟨b, ⟨o, e⟩, hg, fun c hc => by cases hc⟩
        have mid2 := addAll_ok ok h1 h2 pre mid fun d hd => by rw [show (pl, a, b', e').2.2.2 = e' from rfl, ec]; exact List.mem_append_left _ hd
        have esn : addAll S lot w1 w2 (pl, a, b', e') W (pre ++ [c]) = addOne S lot w1 w2 (pl, a, b', e') (addAll S lot w1 w2 (pl, a, b', e') W pre) c := by
          unfold addAll
          rw [List.foldl_append]
          rfl
        have w2len := mid2.b.len
        generalize addAll S lot w1 w2 (pl, a, b', e') W pre = W2 at mid2 esn w2len ⊢
        have esuc : sucN S lot w1 w2 (pl, a, b', e') c = (min (whl w1 w2) (pl + 1), (ld S lot a (w1.getD pl 0) c, ld S lot b' (w2.getD pl 0) c, gn2 S lot c)) := rfl
        rw [show natsD w1 = .rol (w1.map nD) from rfl]
        walk_at "dgo"
        rw [show (D.int (if (pl : Int) + 1 < ((whl w1 w2 : Nat) : Int) then (pl : Int) + 1 else ((whl w1 w2 : Nat) : Int))) = nD (min (whl w1 w2) (pl + 1)) by congr 1; split <;> omega]
        rw [show D.tup [nD (min (whl w1 w2) (pl + 1)), triD (ld S lot a (w1.getD pl 0) c, ld S lot b' (w2.getD pl 0) c, gn2 S lot c)] = nodeD (sucN S lot w1 w2 (pl, a, b', e') c) from rfl]
        refine rdct_of (by rw [put_ne n12]; exact put_same) ⟨key_node _, ?_⟩
        by_cases hin : sucN S lot w1 w2 (pl, a, b', e') c ∈ W2.map (·.1)
        · rw [look_in.mpr hin]
          walk_at "dgo"
          refine hnx2 _ _ ⟨_, _, _, rfl, ?_⟩
          rw [esn]
          unfold addOne
          rw [if_pos hin]
        · have hno : dlook (W2.map entD) (nodeD (sucN S lot w1 w2 (pl, a, b', e') c)) = none := by
            cases q : dlook (W2.map entD) (nodeD (sucN S lot w1 w2 (pl, a, b', e') c)) with
            | none => rfl
            | some x => exact absurd (look_in.mp (by rw [q]; rfl)) hin
          rw [hno]
          walk_at "dgo"
          refine dctAt_of (by rw [put_ne n12]; exact put_same) ⟨⟨key_node _, by rw [List.length_map]; omega⟩, ?_⟩
          rw [put_over n12, dput_new hno]
          refine lstAt_of put_same (lstAt_of put_same ⟨by rw [List.length_map]; omega, ?_⟩)
          rw [put_put]
          refine hnx2 _ _ ⟨_, _, _, rfl, ?_⟩
          rw [esn]
          unfold addOne
          rw [if_neg hin, List.map_append, List.map_append]
          rfl
      · rintro σ h' ⟨v12, v13, v14, rfl, rfl⟩
        have mid : BMid S lot w1 w2 W i (pl, a, b', e') [] := ⟨b, ⟨o, e⟩, hg, fun c hc => by cases hc⟩
        have mid2 := addAll_ok ok h1 h2 (opn2 S lot e') mid fun d hd => hd
        exact hnx m _ _ (Nat.lt_succ_self m) ⟨_, i + 1, _, _, _, _, _, _, _, _, rfl, rfl, mid2.next, by omega, hR⟩
  · rw [decide_eq_false (by omega)]
    walk_at "dgo"
    rw [bfs, List.getElem?_eq_none (by omega)] at hR
    rw [← hR] at q
    exact Wk.to (sH _ _) q
end
end My
namespace My
open PySem PySem.Spec PyProof.Rows L2 DL
theorem KeptOk.puts {C : Nat → Addr} {S : Qs} {k : Addr} {kvs : List (D × D)} (q : KeptOk C S k kvs) {x v : D} (hv : (x = .str "numbers" ∧ v = numD S) ∨ (∃ lot ∈ allLots 4, x = splitKey lot ∧ IsSplit C S k lot v) ∨ Extra C S k x v) : KeptOk C S k (dput kvs x v) := by
  refine ⟨dput_nd q.nd, fun p hp => ?_⟩
  unfold dput at hp
  split at hp
  · obtain ⟨r, hr, rfl⟩ := List.mem_map.mp hp
    by_cases e : r.1 = x
    · rw [if_pos e, e]; exact hv
    · rw [if_neg e]; exact q.at_ r hr
  · rcases List.mem_append.mp hp with h | h
    · exact q.at_ p h
    · rw [List.mem_singleton.mp h]; exact hv
theorem extra_split {C : Nat → Addr} {S : Qs} {k : Addr} {lot : List Nat} {v : D} (h : Extra C S k (splitKey lot) v) : False := h
theorem lot4 {r : Nat} {lot : List Nat} (lo : LotOk r lot) (r4 : r ≤ 4) : lot ∈ allLots 4 := allLots_mem (fun x hx => Nat.lt_of_lt_of_le (lo.lt x hx) r4) lo.asc
def sp_split_of (C : Nat → Addr) : DSp := sp2 fun a b h P => ∃ (S : Qs) (k : Addr) (lot : List Nat), a = qV C S k ∧ b = lotD lot ∧ QAt C h S k ∧ LotOk S.r lot ∧ ∀ v, IsSplit C S k lot v → P v h
section
variable {P : Program} {w : World} {K : PySem.W.Frag} {mg : Str → Option Value} {base : Heap}
theorem ok_split_of (T : Txt K mg) : DFn P w K mg base 8 T.a_split_of T.d_split_of ["question", "lot"] (sp_split_of T.Cm) := by
  refine dfn2 T.F_split_of sc_split_of rfl (fun cdv A outer s H E hr => ⟨_, (dss_opn (dss_cons (ds_if (dt_cmp (op_dNotInA hr.units) (de_tup (da_cons de_str (da_cons (de_var 1) da_nil))) (de_fldK (K := K) (by rfl) (de_var 0)) (by rfl))
  (dss_one (ds_asg (de_co (de_frz (de_make T.M_Split (ok_Split_init T) (hr.mono (by decide)) (by rfl) T.mC_Split T.b_Split_init (da_cons (de_var 0) (da_cons (de_var 1) da_nil))))) (dg_sub (de_fldK (K := K) (by rfl) (de_var 0)) (de_tup (da_cons de_str (da_cons (de_var 1) da_nil))) (set_dD hr.units))))
  dss_nil)
  (dss_one (ds_ret (de_ixD hr.units (de_fldK (K := K) (by rfl) (de_var 0)) (de_tup (da_cons de_str (da_cons (de_var 1) da_nil)))))))), fun p0 p1 h Q q => ?_⟩)
  rw [show dstart ["question", "lot"] [p0, p1] = [some p0, some p1] from rfl]
  obtain ⟨S, k, lot, rfl, rfl, qa, lo, q⟩ := q
  obtain ⟨ok, hk⟩ := id qa
  have fl : ∀ {h' : DH} {f : Str} {v : D} {R : D → Prop}, NoAttr K T.C_Question f → (qFs S k).lookup f = some v → R v → fldAt K (qV T.Cm S k) h' f R := fun {h' f v R} n l r => fld_self (qV_at (h := h')) ⟨T.cl_Question, n⟩ l r
  refine opn_d hk fun kvs ko => ?_
  walk_at "dgo"
  refine fl T.n_Question_kept (lk_kept S k) (rdct_of put_same ⟨key_sp lot, ?_⟩)
  rw [show D.tup [D.str "split", lotD lot] = splitKey lot from rfl]
  cases e : dlook kvs (splitKey lot) with
  | some v =>
    walk_at "dgo"
    refine fl T.n_Question_kept (lk_kept S k) (rdct_of put_same ⟨key_sp lot, ?_⟩)
    rw [e]
    walk_at "dgo"
    refine Wk.by (abs_put hk ko) (q v ?_)
    rcases ko.at_ _ (kept_dlook e) with ⟨h, _⟩ | ⟨lot2, _, h, hs⟩ | h
    · unfold splitKey at h; cases h
    · rw [splitKey_inj h]; exact hs
    · exact (extra_split h).elim
  | none =>
    walk_at "dgo"
    refine ⟨h, abs_put hk ko, fun x nx => ?_⟩
    have nxk : x ≠ k := (ne_none hk nx).symm
    refine ⟨x, S, k, lot, rfl, rfl, rfl, qa.sub (Sub.new nx), lo, nxk, put_same, fun u p hu hp => ⟨rfl, ?_⟩⟩
    rw [put_put, frz_ins put_same, del_put nx]
    refine opn_d hk fun kvs2 ko2 => ?_
    refine fl T.n_Question_kept (lk_kept S k) (dctAt_of put_same ⟨⟨key_sp lot, ko2.len⟩, ?_⟩)
    refine fl T.n_Question_kept (lk_kept S k) (rdct_of put_same ⟨key_sp lot, ?_⟩)
    rw [dlook_dput, if_pos rfl, put_put]
    have hs : IsSplit T.Cm S k lot (splitV T.Cm S k lot u p) := ⟨u, p, hu, hp, rfl⟩
    exact Wk.by (abs_put hk (ko2.puts (.inr (.inl ⟨lot, lot4 lo ok.r4, rfl, hs⟩)))) (q _ hs)
end
end My
namespace My
open PySem PySem.Spec PyProof.Rows L2 DL
def sp_check_lot (C : Nat → Addr) : DSp := sp2 fun a b h P => ∃ (S : Qs) (k : Addr) (lot : List Nat), a = qV C S k ∧ b = lotD lot ∧ QAt C h S k ∧ LotOk S.r lot ∧ P .non h
section
variable {P : Program} {w : World} {K : PySem.W.Frag} {mg : Str → Option Value} {base : Heap}
theorem ok_check_lot (T : Txt K mg) : DFn P w K mg base 4 T.a_check_lot T.d_check_lot ["question", "lot"] (sp_check_lot T.Cm) := by
  refine dfn2 T.F_check_lot sc_check_lot rfl (fun cdv A outer s H E hr => ⟨_, (dss_one (ds_if (dw_or (dt_not (dt_val (de_call (ok_is_ascending T) (hr.mono (by decide)) (by rfl) T.m_is_ascending T.F_is_ascending.kp T.b_is_ascending (da_cons (de_var 1) (da_cons (de_fldK (K := K) (by rfl) (de_var 0)) da_nil))))) (dw_or1 (dt_not (dt_chain op_dLe op_dLt de_int (de_callB call_dLen (by rfl) T.b_len (by decide +kernel) (da_cons (de_var 1) da_nil)) (de_fldK (K := K) (by rfl) (de_var 0)))))).dt
  (dss_one ds_never)
  dss_nil)), fun p0 p1 h Q q => ?_⟩)
  rw [show dstart ["question", "lot"] [p0, p1] = [some p0, some p1] from rfl]
  obtain ⟨S, k, lot, rfl, rfl, qa, lo, q⟩ := q
  have ok := qa.ok
  have r4 := ok.r4
  have l1 := lo.ne
  have l2 := lo.all
  walk_at "dgo"
  refine fld_self (qV_at (C := T.Cm)) ⟨T.cl_Question, T.n_Question_rows⟩ (lk_rows S k) ?_
  refine ⟨lot, S.r, rfl, rfl, by omega, lo.lt, lo.asc, ?_⟩
  unfold lotD
  walk_at "dgo"
  rw [List.length_map, decide_eq_true (show (1 : Int) ≤ (lot.length : Int) by omega)]
  walk_at "dgo"
  refine fld_self (qV_at (C := T.Cm)) ⟨T.cl_Question, T.n_Question_rows⟩ (lk_rows S k) ?_
  walk_at "dgo"
  rw [decide_eq_true (show (lot.length : Int) < (S.r : Int) by omega)]
  walk_at "dgo"
  exact Wk.of q
end
end My
namespace My
open PySem PySem.Spec PyProof.Rows L2 DL
theorem nums_lt {S : Qs} {lot : List Nat} (ok : S.Ok) {ws : List Str} (w : Wds lot.length S.l ws) : ∀ x ∈ numsOf S.l ws, x < (lotC S lot).length := fun x hx => by
  obtain ⟨p, _, rfl⟩ := List.mem_map.mp hx
  have := val_lt ok.l2 (show colAt ws p ∈ cols lot.length (sg S.l) by rw [← w.len]; exact colAt_mem w.ok p)
  unfold lotC
  rw [cols_len, sg_len ok.l2]
  exact this
theorem nums_len {l : Nat} {ws : List Str} {r : Nat} (w : Wds r l ws) : (numsOf l ws).length ≤ 60 := by
  unfold numsOf
  rw [List.length_map, List.length_range]
  exact maxLen_le w.short
/-- the told words, or None -/
def toldD (S : Qs) (lot : List Nat) : Option (List Nat) → D
  | none => .non
  | some ns => wordsD (wordsIn (ns.map fun n => (othC S lot).getD n []) (othersOf S.r lot).length)
theorem parted_le {S : Qs} {lot w1 w2 : List Nat} (ok : S.Ok) (lo : LotOk S.r lot) (h1 : ∀ x ∈ w1, x < (lotC S lot).length) (h2 : ∀ x ∈ w2, x < (lotC S lot).length) (l1 : w1.length ≤ 60) (l2 : w2.length ≤ 60) {ns : List Nat} (e : partedR S lot w1 w2 = some ns) :
    (∀ n ∈ ns, n < (othC S lot).length) ∧ ns.length ≤ 40000 := by
  rcases bfs_ok ok h1 h2 _ _ _ (bok_start ok) (Nat.le_refl _) with ⟨e2, _⟩ | ⟨l, n, e2, r, _⟩
  · unfold partedR at e; rw [e2] at e; cases e
  · have e3 := e
    unfold partedR at e3
    rw [e2] at e3
    cases e3
    refine ⟨rch_opn r, Nat.le_trans (bfs_len ok h1 h2 _ _ _ _ (bok_start ok) e) (Nat.le_trans (allNd_len ok lo) ?_)⟩
    have := Nat.mul_le_mul_right 512 (show whl w1 w2 + 1 ≤ 61 by unfold whl; omega)
    omega
def sp_parted (C : Nat → Addr) : DSp := sp4 fun a b c d h P => ∃ (S : Qs) (k : Addr) (lot : List Nat) (v1 v2 : List Str), a = qV C S k ∧ b = lotD lot ∧ c = wordsD v1 ∧ d = wordsD v2 ∧ QAt C h S k ∧ LotOk S.r lot ∧ Wds lot.length S.l v1 ∧ Wds lot.length S.l v2 ∧
  P (toldD S lot (partedR S lot (numsOf S.l v1) (numsOf S.l v2))) h
section
variable {P : Program} {w : World} {K : PySem.W.Frag} {mg : Str → Option Value} {base : Heap}
theorem ok_parted (T : Txt K mg) : DFn P w K mg base 9 T.a_parted T.d_parted ["question", "lot", "first", "second"] (sp_parted T.Cm) := by
  refine dfn4 T.F_parted sc_parted rfl (fun cdv A outer s H E hr => ⟨_, (dss_cons (ds_expr (de_call (ok_check_lot T) (hr.mono (by decide)) (by rfl) T.m_check_lot T.F_check_lot.kp T.b_check_lot (da_cons (de_var 0) (da_cons (de_var 1) da_nil))))
  (dss_cons (ds_expr (de_call (ok_check_words T) (hr.mono (by decide)) (by rfl) T.m_check_words T.F_check_words.kp T.b_check_words (da_cons (de_callB call_dLen (by rfl) T.b_len (by decide +kernel) (da_cons (de_var 1) da_nil)) (da_cons (de_fldK (K := K) (by rfl) (de_var 0)) (da_cons (de_var 2) da_nil)))))
  (dss_cons (ds_expr (de_call (ok_check_words T) (hr.mono (by decide)) (by rfl) T.m_check_words T.F_check_words.kp T.b_check_words (da_cons (de_callB call_dLen (by rfl) T.b_len (by decide +kernel) (da_cons (de_var 1) da_nil)) (da_cons (de_fldK (K := K) (by rfl) (de_var 0)) (da_cons (de_var 3) da_nil)))))
  (dss_cons (ds_set (i := 4) sc_parted.nd rfl (by first | exact Or.inl rfl | exact Or.inr rfl) (de_call (ok_split_of T) (hr.mono (by decide)) (by rfl) T.m_split_of T.F_split_of.kp T.b_split_of (da_cons (de_var 0) (da_cons (de_var 1) da_nil))))
  (dss_cons (ds_set (i := 5) sc_parted.nd rfl (by first | exact Or.inl rfl | exact Or.inr rfl) (de_meth (de_var 4) T.cl_Split T.me_Split_parted (ok_Split_parted T) (hr.mono (by decide)) T.b_Split_parted (da_cons (de_meth (de_var 4) T.cl_Split T.me_Split_numbers_of (ok_Split_numbers_of T) (hr.mono (by decide)) T.b_Split_numbers_of (da_cons (de_var 2) da_nil)) (da_cons (de_meth (de_var 4) T.cl_Split T.me_Split_numbers_of (ok_Split_numbers_of T) (hr.mono (by decide)) T.b_Split_numbers_of (da_cons (de_var 3) da_nil)) da_nil))))
  (dss_one (ds_ret (de_ifExp (dt_cmp op_dIs (de_var 5) de_non (nomark _)) de_non (de_meth (de_var 4) T.cl_Split T.me_Split_other_words (ok_Split_other_words T) (hr.mono (by decide)) T.b_Split_other_words (da_cons (de_var 5) da_nil)))))))))), fun p0 p1 p2 p3 h Q q => ?_⟩)
  rw [show dstart ["question", "lot", "first", "second", "split", "found"] [p0, p1, p2, p3] = [some p0, some p1, some p2, some p3, none, none] from rfl]
  obtain ⟨S, k, lot, v1, v2, rfl, rfl, rfl, rfl, qa, lo, wd1, wd2, q⟩ := q
  have ok := qa.ok
  have r4 := ok.r4
  have l1 := lo.ne
  have l2 := lo.all
  have fl : ∀ {h' : DH} {f : Str} {v : D} {R : D → Prop}, NoAttr K T.C_Question f → (qFs S k).lookup f = some v → R v → fldAt K (qV T.Cm S k) h' f R := fun {h' f v R} n l r => fld_self (qV_at (h := h')) ⟨T.cl_Question, n⟩ l r
  have hlot : lotD lot = .tup (lot.map nD) := rfl
  walk_at "dgo"
  refine ⟨S, k, lot, rfl, rfl, qa, lo, ?_⟩
  rw [hlot]
  walk_at "dgo"
  rw [List.length_map]
  refine fl T.n_Question_letters (lk_letters S k) ?_
  refine ⟨lot.length, S.l, v1, rfl, rfl, rfl, wd1, by omega, ok.l1, ok.l2, ?_⟩
  refine fl T.n_Question_letters (lk_letters S k) ?_
  refine ⟨lot.length, S.l, v2, rfl, rfl, rfl, wd2, by omega, ok.l1, ok.l2, ?_⟩
  refine ⟨S, k, lot, rfl, rfl, qa, lo, ?_⟩
  rintro _ ⟨u, p, hu, hp, rfl⟩
  have sv : SelfAt h (splitV T.Cm S k lot u p) (T.Cm 1) ((splitFs T.Cm S k lot u p).take 13) := splitV_at
  refine recv_self sv (split_no (by decide +kernel) 13) ?_
  refine recv_self sv (split_no (by decide +kernel) 13) ?_
  refine ⟨S, k, lot, _, v1, sv, sf1_take (by decide), rfl, ok, lo, wd1, ?_⟩
  refine recv_self sv (split_no (by decide +kernel) 13) ?_
  refine ⟨S, k, lot, _, v2, sv, sf1_take (by decide), rfl, ok, lo, wd2, ?_⟩
  refine ⟨S, k, lot, _, numsOf S.l v1, numsOf S.l v2, sv, sf3_take (by decide), split_no (by decide +kernel) 13, rfl, rfl, ok, lo, nums_lt ok wd1, nums_lt ok wd2, nums_len wd1, nums_len wd2, ?_⟩
  cases e : partedR S lot (numsOf S.l v1) (numsOf S.l v2) with
  | none =>
    rw [e] at q
    unfold optD
    walk_at "dgo"
    exact Wk.of q
  | some ns =>
    rw [e] at q
    unfold optD natsD
    walk_at "dgo"
    obtain ⟨b1, b2⟩ := parted_le ok lo (nums_lt ok wd1) (nums_lt ok wd2) (nums_len wd1) (nums_len wd2) e
    refine recv_self sv (split_no (by decide +kernel) 13) ?_
    exact ⟨S, k, lot, _, ns, sv, sf1_take (by decide), rfl, ok, lo, b1, b2, Wk.of q⟩
end
end My
namespace My
open PySem PySem.Spec PyProof.Rows L2 DL
/-- what a drawing pool holds -/
def IsPool (xs : List D) : Prop := ∃ (gs ss : List Int) (x n : Int), xs = [.rol (gs.map .int), .rol (ss.map .int), .int x, .int n] ∧ ss.length ≤ 63
def PoolIn (h : DH) (p : Addr) : Prop := h p = some (.absl IsPool)
theorem PoolIn.sub {h h' : DH} {p : Addr} (q : PoolIn h p) (s : Sub h h') : PoolIn h' p := s _ _ q
theorem ten18 : CPow 10 18 := ⟨by decide, by decide, by decide⟩
theorem paired_ints {α : Type} : ∀ {zs : List α} {ds : List D}, Paired (fun _ d => ∃ m : Int, d = .int m) zs ds → ∃ gs : List Int, ds = gs.map .int ∧ gs.length = zs.length
  | [], _, .nil => ⟨[], rfl, rfl⟩
  | z :: zs, d :: ds, .cons r t => by
    obtain ⟨gs, e, hl⟩ := paired_ints t
    obtain ⟨m, rfl⟩ := r
    exact ⟨m :: gs, by rw [e]; rfl, by rw [List.length_cons, List.length_cons, hl]⟩
theorem int_zero (n : Int) : atI [D.int n] 0 = some (.int n) := DL.atI_0 _ _
def sp_wpool : DSp := sp1 fun a h P => ∃ ns : List Int, a = .rol (ns.map .int) ∧ ns.length ≤ 63 ∧ ∀ p, h p = none → P (.ref p) (put h p (.absl IsPool))
section
variable {P : Program} {w : World} {K : PySem.W.Frag} {mg : Str → Option Value} {base : Heap}
theorem ok_wpool (T : Txt K mg) : DFn P w K mg base 1 T.a_wpool T.d_wpool ["script"] sp_wpool := by
  refine dfn1 T.F_wpool sc_wpool rfl (fun cdv A outer s H E hr => ⟨_, (dss_cons (ds_frz (by rfl) (ds_setLc (i := 1) (own := [("cell", 3)]) rfl sc_wpool.nd rfl rfl (sw_true rfl rfl rfl (by decide +kernel)) (di_list (de_frz (de_sl (de_var 0) do_none (do_some de_int)))) (blkOk_by (N := ["script", "great", "small", "cell"]) (sc := defScope s_wpool) (own := [("cell", 3)]) (by decide +kernel)) (by decide) (fun _ _ _ _ _ => (dg_name (i := 3) sc_wpool.nd rfl (by first | exact Or.inl rfl | exact Or.inr rfl))) (fun _ _ _ _ _ => (dts_one (dt_cmp op_dGe (de_callB call_dAbs (by rfl) T.b_abs (by decide +kernel) (da_cons (de_var 3) da_nil)) (de_op op_dPow de_int de_int) (nomark _)))) (fun _ _ _ _ _ => (de_callB call_dAbs (by rfl) T.b_abs (by decide +kernel) (da_cons (de_var 3) da_nil)))))
  (dss_cons (ds_frz (by rfl) (ds_setLc (i := 2) (own := [("cell", 3)]) rfl sc_wpool.nd rfl rfl (sw_true rfl rfl rfl (by decide +kernel)) (di_list (de_frz (de_sl (de_var 0) do_none (do_some de_int)))) (blkOk_by (N := ["script", "great", "small", "cell"]) (sc := defScope s_wpool) (own := [("cell", 3)]) (by decide +kernel)) (by decide) (fun _ _ _ _ _ => (dg_name (i := 3) sc_wpool.nd rfl (by first | exact Or.inl rfl | exact Or.inr rfl))) (fun _ _ _ _ _ => (dts_one (dt_cmp op_dLt (de_callB call_dAbs (by rfl) T.b_abs (by decide +kernel) (da_cons (de_var 3) da_nil)) (de_op op_dPow de_int de_int) (nomark _)))) (fun _ _ _ _ _ => (de_op op_dMod (de_callTy call_dInt (by rfl) T.b_int (by decide +kernel) (da_cons (de_var 3) da_nil)) de_int))))
  (dss_one (ds_ret (de_lst (da_cons (de_var 1) (da_cons (de_var 2) (da_cons de_int (da_cons de_int da_nil))))))))), fun p0 h Q q => ?_⟩)
  rw [show dstart ["script", "great", "small", "cell"] [p0] = [some p0, none, none, none] from rfl]
  obtain ⟨ns, rfl, hl, q⟩ := q
  have line81 := line81
  have cut : DL.cutD (ns.map D.int) none (some 63) = (ns.take 63).map D.int := by
    rw [show (63 : Int) = ((63 : Nat) : Int) from rfl, cut_to, List.map_take]
  have small : (ns.take 63).length ≤ 63 := by rw [List.length_take]; omega
  walk_at "dgo"
  rw [cut]
  refine frsh ?_
  walk_at "dgo"
  refine lcR D.int (ns.take 63) (fun _ d => ∃ m : Int, d = .int m) rfl (fun _ _ => trivial) (fun n hn h1 s1 R R' hR hR' => ?_) (by omega) (fun zs ds hs hf => ?_)
  · walk_at "dgo"
    refine ⟨ten18, ?_⟩
    cases decide (((10 : Int) ^ (18 : Int).toNat) ≤ if n < 0 then -n else n) <;> walk_at "dgo"
    · exact hR'
    · exact hR _ ⟨_, rfl⟩
  obtain ⟨gs, rfl, hgl⟩ := paired_ints hf
  walk_at "dgo"
  refine frsh ?_
  walk_at "dgo"
  refine lcR D.int (ns.take 63) (fun _ d => ∃ m : Int, d = .int m) rfl (fun _ _ => trivial) (fun n hn h1 s1 R R' hR hR' => ?_) (by omega) (fun zs2 ds2 hs2 hf2 => ?_)
  · walk_at "dgo"
    refine ⟨ten18, ?_⟩
    cases decide ((if n < 0 then -n else n) < ((10 : Int) ^ (18 : Int).toNat)) <;> walk_at "dgo"
    · exact hR'
    · exact ⟨by decide, hR _ ⟨_, rfl⟩⟩
  obtain ⟨ss, rfl, hsl⟩ := paired_ints hf2
  walk_at "dgo"
  intro p np
  refine Wk.by (h0 := put h p (.absl IsPool)) (fun a o ea => ?_) (q p np)
  by_cases z : a = p
  · subst z
    rw [put_same] at ea
    cases ea
    exact .inr ⟨_, put_same, gs, ss, 0, 0, rfl, by have := hs2.length_le; omega⟩
  · rw [put_ne z] at ea ⊢
    exact .inl ea
end
end My
namespace My
open PySem PySem.Spec PyProof.Rows L2 DL
theorem CMul.small {i j : Int} (h1 : 0 ≤ j) (h2 : j < 2147483648) : CMul i j := Or.inr ⟨by omega, by omega⟩
theorem CMul.smallL {i j : Int} (h1 : 0 ≤ i) (h2 : i < 2147483648) : CMul i j := Or.inl ⟨by omega, by omega⟩
theorem modS (a : Int) : CMul (a % 2147483647) (a % 2147483647 / 1009 + 69621) := by
  have h1 := Int.emod_nonneg a (show (2147483647 : Int) ≠ 0 by decide)
  have h2 := Int.emod_lt_of_pos a (show (0 : Int) < 2147483647 by decide)
  exact CMul.smallL h1 (by omega)
theorem modS2 (a b : Int) : CMul (a % 2147483647) (b + 40692) := by
  have h1 := Int.emod_nonneg a (show (2147483647 : Int) ≠ 0 by decide)
  have h2 := Int.emod_lt_of_pos a (show (0 : Int) < 2147483647 by decide)
  exact CMul.smallL h1 (by omega)
def sp_wdraw : DSp := sp2 fun a b h P => ∃ (p : Addr) (m : Nat), a = .ref p ∧ b = .int m ∧ 0 < m ∧ m ≤ 1000000 ∧ PoolIn h p ∧ ∀ r : Nat, r < m → P (.int r) h
section
variable {P : Program} {w : World} {K : PySem.W.Frag} {mg : Str → Option Value} {base : Heap}
theorem ok_wdraw (T : Txt K mg) : DFn P w K mg base 1 T.a_wdraw T.d_wdraw ["pool", "many"] sp_wdraw := by
  refine dfn2 T.F_wdraw sc_wdraw rfl (fun cdv A outer s H E hr => ⟨_, (dss_opn (dss_cons (ds_if (dw_and (dt_cmp op_dLe (de_ix (de_var 0) de_int) de_int (nomark _)) (dw_and1 (dt_cmp op_dGt (de_callB call_dLen (by rfl) T.b_len (by decide +kernel) (da_cons (de_ix (de_var 0) de_int) da_nil)) de_int (nomark _)))).dt
  (dss_cons (ds_asg (de_ix (de_ix (de_var 0) de_int) de_int) (dg_sub (de_var 0) de_int set_d))
  (dss_one (ds_asg (de_frz (de_sl (de_ix (de_var 0) de_int) (do_some de_int) do_none)) (dg_sub (de_var 0) de_int set_d))))
  dss_nil)
  (dss_cons (ds_if (dt_cmp op_dGt (de_ix (de_var 0) de_int) de_int (nomark _))
  (dss_cons (ds_set (i := 2) sc_wdraw.nd rfl (by first | exact Or.inl rfl | exact Or.inr rfl) (de_op op_dMod (de_callTy call_dInt (by rfl) T.b_int (by decide +kernel) (da_cons (de_ix (de_var 0) de_int) da_nil)) (de_var 1)))
  (dss_cons (ds_asg (de_op op_dFdiv (de_ix (de_var 0) de_int) (de_var 1)) (dg_sub (de_var 0) de_int set_d))
  (dss_one (ds_ret (de_var 2)))))
  dss_nil)
  (dss_cons (ds_asg (de_op op_dAdd (de_ix (de_var 0) de_int) de_int) (dg_sub (de_var 0) de_int set_d))
  (dss_cons (ds_set (i := 3) sc_wdraw.nd rfl (by first | exact Or.inl rfl | exact Or.inr rfl) de_int)
  (dss_cons (ds_if (dt_cmp op_dGt (de_callB call_dLen (by rfl) T.b_len (by decide +kernel) (da_cons (de_ix (de_var 0) de_int) da_nil)) de_int (nomark _))
  (dss_one (ds_set (i := 3) sc_wdraw.nd rfl (by first | exact Or.inl rfl | exact Or.inr rfl) (de_ix (de_ix (de_var 0) de_int) (de_op op_dMod (de_callTy call_dInt (by rfl) T.b_int (by decide +kernel) (da_cons (de_ix (de_var 0) de_int) da_nil)) (de_callB call_dLen (by rfl) T.b_len (by decide +kernel) (da_cons (de_ix (de_var 0) de_int) da_nil))))))
  dss_nil)
  (dss_cons (ds_set (i := 4) sc_wdraw.nd rfl (by first | exact Or.inl rfl | exact Or.inr rfl) (de_op op_dMod (de_callTy call_dInt (by rfl) T.b_int (by decide +kernel) (da_cons (de_op op_dMul (de_op op_dAdd (de_op op_dAdd (de_var 3) (de_op op_dMul de_int (de_ix (de_var 0) de_int))) de_int) de_int) da_nil)) de_int))
  (dss_cons (ds_set (i := 4) sc_wdraw.nd rfl (by first | exact Or.inl rfl | exact Or.inr rfl) (de_op op_dMod (de_callTy call_dInt (by rfl) T.b_int (by decide +kernel) (da_cons (de_op op_dMul (de_var 4) (de_op op_dAdd (de_op op_dFdiv (de_var 4) de_int) de_int)) da_nil)) de_int))
  (dss_cons (ds_set (i := 4) sc_wdraw.nd rfl (by first | exact Or.inl rfl | exact Or.inr rfl) (de_op op_dMod (de_callTy call_dInt (by rfl) T.b_int (by decide +kernel) (da_cons (de_op op_dMul (de_var 4) (de_op op_dAdd (de_op op_dFdiv (de_var 4) de_int) de_int)) da_nil)) de_int))
  (dss_one (ds_ret (de_op op_dMod (de_callTy call_dInt (by rfl) T.b_int (by decide +kernel) (da_cons (de_op op_dFdiv (de_var 4) de_int) da_nil)) (de_var 1))))))))))))), fun p0 p1 h Q q => ?_⟩)
  rw [show dstart ["pool", "many", "digit", "cell", "number"] [p0, p1] = [some p0, some p1, none, none, none] from rfl]
  obtain ⟨p, m, rfl, rfl, m0, m6, pool, q⟩ := q
  refine opn_l pool fun xs ip => ?_
  have done : ∀ {xs' : List D} {v : Int}, IsPool xs' → Wk Q (.int (v % m)) (put h p (.lst xs')) := fun {xs' v} ip' => by
    have h0 := Int.emod_nonneg v (show (m : Int) ≠ 0 by omega)
    have hm := Int.emod_lt_of_pos v (show (0 : Int) < m by omega)
    have key := q (v % m).toNat (by omega)
    rw [Int.toNat_of_nonneg h0] at key
    exact Wk.by (abs_putL pool ip') key
  refine seq_by (fun σ h' => σ = [some (.ref p), some (.int m), none, none, none] ∧ ∃ xs, IsPool xs ∧ h' = put h p (.lst xs)) ?_ ?_
  · rintro σ h1 ⟨rfl, _, ⟨gs, ss, x, n, rfl, sl⟩, rfl⟩
    walk_at "dgo"
    rw [lstAt_eq put_same]
    walk_at "dgo"
    cases hx : decide (x > 1)
    · walk_at "dgo"
      rw [lstAt_eq put_same]
      walk_at "dgo"
      refine lstAt_of put_same ⟨3, rfl, ?_⟩
      rw [put_put]
      walk_at "dgo"
      rw [lstAt_eq put_same]
      walk_at "dgo"
      rw [List.length_map]
      have last : ∀ v : Int, Wk Q (.int (v % m)) (put h p (.lst [.rol (gs.map .int), .rol (ss.map .int), .int x, .int (n + 1)])) := fun v => done ⟨gs, ss, x, n + 1, rfl, sl⟩
      cases hs : decide ((ss.length : Int) > 0)
      · walk_at "dgo"
        rw [lstAt_eq put_same]
        walk_at "dgo"
        exact ⟨CMul.smallL (by decide) (by decide), CMul.small (by decide) (by decide), by decide, ⟨by decide, by decide⟩, modS _, by decide, ⟨by decide, by decide⟩, modS2 _ _, by decide, ⟨by decide, by decide⟩, by omega, last _⟩
      · have hs2 := of_decide_eq_true hs
        walk_at "dgo"
        rw [lstAt_eq put_same]
        walk_at "dgo"
        rw [lstAt_eq put_same]
        walk_at "dgo"
        rw [lstAt_eq put_same]
        walk_at "dgo"
        rw [List.length_map]
        have h0 := Int.emod_nonneg (n + 1) (show (ss.length : Int) ≠ 0 by omega)
        have hm := Int.emod_lt_of_pos (n + 1) (show (0 : Int) < ss.length by omega)
        refine ⟨by omega, ?_⟩
        rw [show (n + 1) % (ss.length : Int) = (((n + 1) % (ss.length : Int)).toNat : Int) by omega]
        refine oAt_of (ints_at (by omega)) ?_
        rw [lstAt_eq put_same]
        walk_at "dgo"
        exact ⟨CMul.smallL (by decide) (by decide), CMul.small (by decide) (by decide), by decide, ⟨by decide, by decide⟩, modS _, by decide, ⟨by decide, by decide⟩, modS2 _ _, by decide, ⟨by decide, by decide⟩, by omega, last _⟩
    · walk_at "dgo"
      rw [lstAt_eq put_same]
      walk_at "dgo"
      refine ⟨by omega, ?_⟩
      rw [lstAt_eq put_same]
      walk_at "dgo"
      refine ⟨⟨by omega, by omega⟩, lstAt_of put_same ⟨2, rfl, ?_⟩⟩
      walk_at "dgo"
      rw [put_put]
      exact done ⟨gs, ss, x / m, n, rfl, sl⟩
  · intro nx hnx
    obtain ⟨gs, ss, x, n, rfl, sl⟩ := id ip
    walk_at "dgo"
    rw [lstAt_eq put_same]
    walk_at "dgo"
    cases hx : decide (x ≤ 1)
    · walk_at "dgo"
      exact hnx _ _ ⟨rfl, _, ip, rfl⟩
    · walk_at "dgo"
      rw [lstAt_eq put_same]
      walk_at "dgo"
      rw [List.length_map]
      cases hg : decide ((gs.length : Int) > 0)
      · walk_at "dgo"
        exact hnx _ _ ⟨rfl, _, ip, rfl⟩
      · walk_at "dgo"
        have hg2 := of_decide_eq_true hg
        rw [lstAt_eq put_same]
        walk_at "dgo"
        refine oAt_of (ints_at (i := 0) (by omega)) ?_
        refine lstAt_of put_same ⟨2, rfl, ?_⟩
        rw [put_put]
        walk_at "dgo"
        rw [lstAt_eq put_same]
        walk_at "dgo"
        rw [cut_one, ints_tail]
        refine frsh ?_
        walk_at "dgo"
        refine lstAt_of put_same ⟨0, rfl, ?_⟩
        rw [put_put]
        exact hnx _ _ ⟨rfl, _, ⟨gs.tail, ss, _, n, rfl, sl⟩, rfl⟩
end
end My
namespace My
open PySem PySem.Spec PyProof.Rows L2 DL
def sp_wpick : DSp := sp2 fun a b h P => ∃ (p : Addr) (xs : List D), a = .ref p ∧ b = .rol xs ∧ 0 < xs.length ∧ xs.length ≤ 1000000 ∧ PoolIn h p ∧ ∀ x, x ∈ xs → P x h
section
variable {P : Program} {w : World} {K : PySem.W.Frag} {mg : Str → Option Value} {base : Heap}
theorem ok_wpick (T : Txt K mg) : DFn P w K mg base 2 T.a_wpick T.d_wpick ["pool", "things"] sp_wpick := by
  refine dfn2 T.F_wpick sc_wpick rfl (fun cdv A outer s H E hr => ⟨_, (dss_one (ds_ret (de_ix (de_var 1) (de_call (ok_wdraw T) (hr.mono (by decide)) (by rfl) T.m_wdraw T.F_wdraw.kp T.b_wdraw (da_cons (de_var 0) (da_cons (de_callB call_dLen (by rfl) T.b_len (by decide +kernel) (da_cons (de_var 1) da_nil)) da_nil)))))), fun p0 p1 h Q q => ?_⟩)
  rw [show dstart ["pool", "things"] [p0, p1] = [some p0, some p1] from rfl]
  obtain ⟨p, xs, rfl, rfl, x0, x6, pool, q⟩ := q
  walk_at "dgo"
  refine ⟨p, xs.length, rfl, rfl, x0, x6, pool, fun i hi => ?_⟩
  walk_at "dgo"
  exact oAt_of (d := xs[i]) (by rw [atI_n]; exact List.getElem?_eq_getElem hi) (Wk.of (q _ (List.getElem_mem hi)))
end
end My
namespace My
open PySem PySem.Spec PyProof.Rows L2 DL
theorem dab_signs : ∀ l : Nat, 1 ≤ l → l ≤ 2 → DL.signs (cutS ("-ab" : Str) none (some ((l : Int) + 1))) = (sg l).map sgD := by
  intro l h1 h2
  have e : (cutS ("-ab" : Str) none (some ((l : Int) + 1))).cps.toList = sg l := by
    rcases (show l = 1 ∨ l = 2 by omega) with rfl | rfl <;> decide +kernel
  unfold DL.signs
  rw [e]
  rfl
theorem dab_len : ("-ab" : Str).length ≤ sizeLine := by decide +kernel
def sp_wcolumns : DSp := sp2 fun a b h P => ∃ r l : Nat, a = nD r ∧ b = nD l ∧ r ≤ 4 ∧ 1 ≤ l ∧ l ≤ 2 ∧ P (colsD r l) h
section
variable {P : Program} {w : World} {K : PySem.W.Frag} {mg : Str → Option Value} {base : Heap}
theorem ok_wcolumns (T : Txt K mg) : DFn P w K mg base 1 T.a_wcolumns T.d_wcolumns ["rows", "letters"] sp_wcolumns := by
  refine dfn2 T.F_wcolumns sc_wcolumns rfl (fun cdv A outer s H E hr => ⟨_, (dss_cons (ds_set (i := 2) sc_wcolumns.nd rfl (by first | exact Or.inl rfl | exact Or.inr rfl) (de_frz (de_lst (da_cons (de_tup da_nil) da_nil))))
  (dss_cons (ds_for PassesOwn.never rfl (di_range1 (by rfl) T.b_range (da_cons (de_var 0) da_nil)) (dg_name (i := 3) sc_wcolumns.nd rfl (by first | exact Or.inl rfl | exact Or.inr rfl))
  (dss_cons (ds_set (i := 4) sc_wcolumns.nd rfl (by first | exact Or.inl rfl | exact Or.inr rfl) (de_lst da_nil))
  (dss_cons (ds_for PassesOwn.never rfl (di_list (de_var 2)) (dg_name (i := 5) sc_wcolumns.nd rfl (by first | exact Or.inl rfl | exact Or.inr rfl))
  (dss_one (ds_expr (de_less (de_ml PySem.F.slot_list_extend PySem.F.type_list_extend mt_dExtend (de_var 4) (da_cons (de_lc (own := [("sign", 6)]) rfl sc_wcolumns.nd (di_str (de_frz (de_sl de_str do_none (do_some (de_op op_dAdd (de_var 1) de_int))))) (blkOk_by (N := ["rows", "letters", "found", "row", "later", "column", "sign"]) (sc := defScope s_wcolumns) (own := [("sign", 6)]) (by decide +kernel)) (by decide) (fun _ _ _ _ _ => (dg_name (i := 6) sc_wcolumns.nd rfl (by first | exact Or.inl rfl | exact Or.inr rfl))) (fun _ _ _ _ _ => dts_nil) (fun _ _ _ _ _ => (de_op op_dAdd (de_var 5) (de_tup (da_cons (de_var 6) da_nil))))) da_nil))))))
  (dss_one (ds_set (i := 2) sc_wcolumns.nd rfl (by first | exact Or.inl rfl | exact Or.inr rfl) (de_frz (de_var 4)))))))
  (dss_one (ds_ret (de_var 2))))), fun p0 p1 h Q q => ?_⟩)
  rw [show dstart ["rows", "letters", "found", "row", "later", "column", "sign"] [p0, p1] = [some p0, some p1, none, none, none, none, none] from rfl]
  obtain ⟨r, l, rfl, rfl, hr4, l1, l2, q⟩ := q
  have line81 := line81
  walk_at "dgo"
  refine frsh ?_
  walk_at "dgo"
  refine ⟨by omega, ?_⟩
  rw [Int.toNat_natCast]
  refine for_pre (fun (i : Nat) => .int ((0 : Int) + i)) (List.range r) rfl (fun pre σ h' => ∃ (v3 v4 v5 : Option D), σ = [some (nD r), some (nD l), some (colsD pre.length l), v3, v4, v5, none] ∧ Sub h h') ⟨none, none, none, rfl, Sub.refl h⟩ (fun _ _ _ _ => trivial) ?_ ?_
  · rintro pre i post σ h' e ⟨v3, v4, v5, rfl, s1⟩ nx hnx
    have hlen : pre.length < r := by
      have := congrArg List.length e
      rw [List.length_range, List.length_append, List.length_cons] at this
      omega
    have small : (cols (pre.length + 1) (sg l)).length ≤ 81 := cols_small l2 (by omega)
    rw [cols_len, Nat.pow_succ, ← cols_len, sg_len l2] at small
    unfold colsD
    walk_at "dgo"
    intro L nL
    refine for_pre encC (cols pre.length (sg l)) rfl (fun pre2 σ h2 => ∃ (v5 : Option D), σ = [some (nD r), some (nD l), some (.rol ((cols pre.length (sg l)).map encC)), some (.int (0 + i)), some (.ref L), v5, none] ∧ h2 = put h' L (.lst (pre2.flatMap fun c => (sg l).map fun s => encC (c ++ [s])))) ⟨v5, rfl, rfl⟩ (fun _ _ _ _ => trivial) ?_ ?_
    · rintro pre2 c post2 σ h2 e2 ⟨v5, rfl, rfl⟩ nx2 hnx2
      have hc : c ∈ cols pre.length (sg l) := by rw [e2]; exact List.mem_append_right _ List.mem_cons_self
      have hcl := (cols_mem.mp hc).1
      have hl2 : (pre2.length + 1) * (l + 1) ≤ (cols pre.length (sg l)).length * (l + 1) := Nat.mul_le_mul_right _ (by rw [e2, List.length_append, List.length_cons]; omega)
      rw [Nat.succ_mul] at hl2
      walk_at "dgo"
      refine lstAt_of put_same ⟨dab_len, ?_⟩
      rw [dab_signs l l1 l2]
      intro L2 nL2
      have nLL2 : L ≠ L2 := ne_none put_same nL2
      refine lc_pure (fun d => match d with | .str z => .tup (c.map sgD ++ [.str z]) | _ => .non) _ (fun _ => trivial) (fun x hx acc R hR => ?_) ?_ ?_
      · obtain ⟨s, hs, rfl⟩ := List.mem_map.mp hx
        unfold encC
        unfold sgD at hR ⊢
        walk_at "dgo"
        refine ⟨?_, hR⟩
        rw [List.length_map]
        omega
      · rw [List.length_map, sg_len l2]
        omega
      have e3 : ((sg l).map sgD).map (fun d => match d with | .str z => D.tup (c.map sgD ++ [.str z]) | _ => .non) = (sg l).map fun s => encC (c ++ [s]) := by
        rw [List.map_map]
        congr 1
        funext s
        unfold encC
        rw [List.map_append]
        rfl
      rw [e3]
      have fl2 : (pre2.flatMap fun c => (sg l).map fun s => encC (c ++ [s])).length = pre2.length * (l + 1) := by
        have : ∀ xs : List (List Nat), (xs.flatMap fun c => (sg l).map fun s => encC (c ++ [s])).length = xs.length * (l + 1) := fun xs => by
          induction xs with
          | nil => simp
          | cons x r ih => rw [List.flatMap_cons, List.length_append, ih, List.length_map, sg_len l2, List.length_cons, Nat.succ_mul]; omega
        exact this pre2
      refine lstAt_of (by rw [put_ne nLL2]; exact put_same) (lstAt_of put_same ⟨?_, ?_⟩)
      · rw [fl2, List.length_map, sg_len l2]
        omega
      rw [put_over nLL2]
      have nL2' : h' L2 = none := (Sub.new nL).free nL2
      refine ⟨_, Abs.of (Sub.new (by rw [put_ne nLL2.symm]; exact nL2')), ?_⟩
      refine hnx2 _ _ ⟨_, rfl, ?_⟩
      rw [List.flatMap_append, List.flatMap_cons, List.flatMap_nil, List.append_nil]
    · rintro σ h2 ⟨v5, rfl, rfl⟩
      walk_at "dgo"
      rw [frz_new nL]
      refine hnx _ _ ⟨some (.int (0 + i)), some (.ref L), v5, ?_, s1⟩
      rw [List.length_append, List.length_singleton, cols_next]
  · rintro σ h' ⟨v3, v4, v5, rfl, s1⟩
    rw [List.length_range]
    walk_at "dgo"
    exact Wk.to s1 q
end
end My
namespace My
open PySem PySem.Spec PyProof.Rows L2 DL
theorem dab_find : ∀ s ∈ sg 2, Txt.find ("-ab" : Str) ⟨#[s]⟩ = (dig s : Int) := by
  intro s hs
  simp [sg] at hs
  rcases hs with rfl | rfl | rfl <;> decide +kernel
theorem sg_sub {l s : Nat} (h : s ∈ sg l) : s ∈ sg 2 := List.mem_of_mem_take h
def sp_wlead : DSp := sp3 fun a b c h P => ∃ (S : Qs) (st : Nat) (col : List Nat), a = specD S ∧ b = nD st ∧ c = encC col ∧ S.Ok ∧ st < S.tbl.length ∧ col ∈ cols S.r (sg S.l) ∧ P (nD (lead S st col)) h
section
variable {P : Program} {w : World} {K : PySem.W.Frag} {mg : Str → Option Value} {base : Heap}
theorem ok_wlead (T : Txt K mg) : DFn P w K mg base 1 T.a_wlead T.d_wlead ["spec", "standing", "column"] sp_wlead := by
  refine dfn3 T.F_wlead sc_wlead rfl (fun cdv A outer s H E hr => ⟨_, (dss_cons (ds_set (i := 3) sc_wlead.nd rfl (by first | exact Or.inl rfl | exact Or.inr rfl) de_int)
  (dss_cons (ds_for PassesOwn.never rfl (di_tup (de_var 2)) (dg_name (i := 4) sc_wlead.nd rfl (by first | exact Or.inl rfl | exact Or.inr rfl))
  (dss_one (ds_set (i := 3) sc_wlead.nd rfl (by first | exact Or.inl rfl | exact Or.inr rfl) (de_op op_dAdd (de_op op_dMul (de_var 3) (de_op op_dAdd (de_ix (de_var 0) de_int) de_int)) (de_ms PySem.F.slot_str_find PySem.F.type_str_find mt_dFind de_str (de_var 4))))))
  (dss_one (ds_ret (de_ifExp (dt_cmp (op_dEqA hr.units) (de_var 3) de_int (nomark _)) (de_var 1) (de_ix (de_ix (de_ix (de_ix (de_var 0) de_int) (de_var 1)) de_int) (de_op op_dSub (de_var 3) de_int))))))), fun p0 p1 p2 h Q q => ?_⟩)
  rw [show dstart ["spec", "standing", "column", "number", "sign"] [p0, p1, p2] = [some p0, some p1, some p2, none, none] from rfl]
  obtain ⟨S, st, col, rfl, rfl, rfl, ok, hst, hc, q⟩ := q
  have l2 := ok.l2
  unfold encC
  walk_at "dgo"
  refine for_pre sgD col rfl (fun pre σ h2 => ∃ (v4 : Option D), σ = [some (specD S), some (nD st), some (encC col), some (nD (val (S.l + 1) pre)), v4] ∧ h2 = h) ⟨none, rfl, rfl⟩ (fun _ _ _ _ => trivial) ?_ ?_
  · rintro pre s post σ h2 e ⟨v4, rfl, rfl⟩ nx hnx
    have hs : s ∈ sg S.l := (cols_mem.mp hc).2 s (by rw [e]; exact List.mem_append_right _ List.mem_cons_self)
    unfold specD
    walk_at "dgo"
    refine ⟨CMul.small (by omega) (by omega), ?_⟩
    unfold sgD
    walk_at "dgo"
    rw [dab_find s (sg_sub hs)]
    refine hnx _ _ ⟨some (sgD s), ?_, rfl⟩
    rw [val_snoc, show ((val (S.l + 1) pre : Nat) : Int) * ((S.l : Int) + 1) + (dig s : Int) = ((val (S.l + 1) pre * (S.l + 1) + dig s : Nat) : Int) by rw [Int.natCast_add, Int.natCast_mul, Int.natCast_add]; rfl]
    rfl
  · rintro σ h2 ⟨v4, rfl, rfl⟩
    unfold specD
    unfold lead at q
    by_cases hv : val (S.l + 1) col = 0
    · rw [if_pos hv] at q
      walk_at "dgo"
      rw [decide_eq_true (by omega)]
      walk_at "dgo"
      exact Wk.of q
    · rw [if_neg hv] at q
      walk_at "dgo"
      rw [decide_eq_false (by omega)]
      unfold tblD
      walk_at "dgo"
      refine oAt_of (tbl_at S.tbl hst) ?_
      unfold rowD
      walk_at "dgo"
      rw [show ((val (S.l + 1) col : Nat) : Int) - 1 = ((val (S.l + 1) col - 1 : Nat) : Int) by omega]
      refine oAt_of (next_at _ ?_) (Wk.of q)
      rw [row_of ok hst]
      have := val_lt l2 hc
      omega
end
end My
namespace My
open PySem PySem.Spec PyProof.Rows L2 DL
def sp_wcolumn_at : DSp := sp2 fun a b h P => ∃ (ws : List Str) (pl : Nat), a = wordsD ws ∧ b = nD pl ∧ ws.length ≤ 80 ∧ (∀ z ∈ ws, z.length ≤ 60000) ∧ P (encC (colAt ws pl)) h
section
variable {P : Program} {w : World} {K : PySem.W.Frag} {mg : Str → Option Value} {base : Heap}
theorem ok_wcolumn_at (T : Txt K mg) : DFn P w K mg base 1 T.a_wcolumn_at T.d_wcolumn_at ["words", "place"] sp_wcolumn_at := by
  refine dfn2 T.F_wcolumn_at sc_wcolumn_at rfl (fun cdv A outer s H E hr => ⟨_, (dss_one (ds_ret (de_callTy call_dTupOf (by rfl) T.b_tuple (by decide +kernel) (da_cons (de_frz (de_lc (own := [("word", 2)]) rfl sc_wcolumn_at.nd (di_tup (de_var 0)) (blkOk_by (N := ["words", "place", "word"]) (sc := defScope s_wcolumn_at) (own := [("word", 2)]) (by decide +kernel)) (by decide) (fun _ _ _ _ _ => (dg_name (i := 2) sc_wcolumn_at.nd rfl (by first | exact Or.inl rfl | exact Or.inr rfl))) (fun _ _ _ _ _ => dts_nil) (fun _ _ _ _ _ => (de_ifExp (dt_cmp op_dLt (de_var 1) (de_callB call_dLen (by rfl) T.b_len (by decide +kernel) (da_cons (de_var 2) da_nil)) (nomark _)) (de_ix (de_var 2) (de_var 1)) de_str)))) da_nil)))), fun p0 p1 h Q q => ?_⟩)
  rw [show dstart ["words", "place", "word"] [p0, p1] = [some p0, some p1, none] from rfl]
  obtain ⟨ws, pl, rfl, rfl, hl, hz, q⟩ := q
  have line81 := line81
  have line60 : 60000 ≤ sizeLine := by rw [sizeLine_eq]; decide
  unfold wordsD
  walk_at "dgo"
  refine lcA D.str ws (fun z => sgD (z.cps.toList.getD pl 45)) rfl (fun _ _ => trivial) (fun z hz1 h1 s1 R hR => ?_) (by omega) ?_
  · have h60 := hz z hz1
    walk_at "dgo"
    refine ⟨by omega, ?_⟩
    by_cases hp : pl < z.length
    · rw [decide_eq_true (by omega)]
      walk_at "dgo"
      refine ⟨by omega, ?_⟩
      rw [col_sign z pl hp]
      exact hR
    · rw [decide_eq_false (by omega)]
      walk_at "dgo"
      rw [col_gone z pl hp] at hR
      exact hR
  · walk_at "dgo"
    unfold encC colAt at q
    rw [List.map_map] at q
    exact Wk.of q
end
end My
namespace My
open PySem PySem.Spec PyProof.Rows L2 DL
def sp_wanswer : DSp := sp2 fun a b h P => ∃ (S : Qs) (ws : List Str), a = specD S ∧ b = wordsD ws ∧ S.Ok ∧ ws.length = S.r ∧ WordsOk S.l ws ∧ (∀ z ∈ ws, z.length ≤ 60000) ∧ P (.bl (ansOf S ws)) h
section
variable {P : Program} {w : World} {K : PySem.W.Frag} {mg : Str → Option Value} {base : Heap}
theorem ok_wanswer (T : Txt K mg) : DFn P w K mg base 2 T.a_wanswer T.d_wanswer ["spec", "words"] sp_wanswer := by
  refine dfn2 T.F_wanswer sc_wanswer rfl (fun cdv A outer s H E hr => ⟨_, (dss_cons (ds_set (i := 2) sc_wanswer.nd rfl (by first | exact Or.inl rfl | exact Or.inr rfl) de_int)
  (dss_cons (ds_for PassesOwn.never rfl (di_range1 (by rfl) T.b_range (da_cons (de_callB (call_dMax rfl) (by rfl) T.b_max (by decide +kernel) (da_cons (de_frz (de_lc (own := [("word", 4)]) rfl sc_wanswer.nd (di_tup (de_var 1)) (blkOk_by (N := ["spec", "words", "standing", "place", "word"]) (sc := defScope s_wanswer) (own := [("word", 4)]) (by decide +kernel)) (by decide) (fun _ _ _ _ _ => (dg_name (i := 4) sc_wanswer.nd rfl (by first | exact Or.inl rfl | exact Or.inr rfl))) (fun _ _ _ _ _ => dts_nil) (fun _ _ _ _ _ => (de_callB call_dLen (by rfl) T.b_len (by decide +kernel) (da_cons (de_var 4) da_nil))))) da_nil)) da_nil)) (dg_name (i := 3) sc_wanswer.nd rfl (by first | exact Or.inl rfl | exact Or.inr rfl))
  (dss_one (ds_set (i := 2) sc_wanswer.nd rfl (by first | exact Or.inl rfl | exact Or.inr rfl) (de_call (ok_wlead T) (hr.mono (by decide)) (by rfl) T.m_wlead T.F_wlead.kp T.b_wlead (da_cons (de_var 0) (da_cons (de_var 2) (da_cons (de_call (ok_wcolumn_at T) (hr.mono (by decide)) (by rfl) T.m_wcolumn_at T.F_wcolumn_at.kp T.b_wcolumn_at (da_cons (de_var 1) (da_cons (de_var 3) da_nil))) da_nil)))))))
  (dss_one (ds_ret (de_ix (de_ix (de_ix (de_var 0) de_int) (de_var 2)) de_int))))), fun p0 p1 h Q q => ?_⟩)
  rw [show dstart ["spec", "words", "standing", "place", "word"] [p0, p1] = [some p0, some p1, none, none, none] from rfl]
  obtain ⟨S, ws, rfl, rfl, ok, w1, w2, w3, q⟩ := q
  have line81 := line81
  have line60 : 60000 ≤ sizeLine := by rw [sizeLine_eq]; decide
  have := ok.r2
  have := ok.r4
  have hm := maxLen_le w3
  unfold wordsD
  walk_at "dgo"
  refine lcA D.str ws (fun z => .int (z.length : Int)) rfl (fun _ _ => trivial) (fun z hz h1 s1 R hR => ?_) (by omega) ?_
  · have h60 := w3 z hz
    walk_at "dgo"
    exact ⟨by omega, hR⟩
  walk_at "dgo"
  refine ⟨by rw [List.length_map]; omega, ?_⟩
  rw [maxL_len]
  refine ⟨by omega, ?_⟩
  rw [Int.toNat_natCast]
  refine for_pre (fun (i : Nat) => .int ((0 : Int) + i)) (List.range (maxLen ws)) rfl (fun pre σ h' => ∃ v3 : Option D, σ = [some (specD S), some (wordsD ws), some (nD (stAt S ws pre.length)), v3, none] ∧ h' = h) ⟨none, rfl, rfl⟩ (fun _ _ _ _ => trivial) ?_ ?_
  · rintro pre i post σ h' e ⟨v3, rfl, rfl⟩ nx hnx
    have hi : i = pre.length := by
      have h1 : (List.range (maxLen ws))[pre.length]? = some i := by rw [e, List.getElem?_append_right (Nat.le_refl _), Nat.sub_self]; rfl
      have h2 := (List.getElem?_eq_some_iff.mp h1).2
      rw [List.getElem_range] at h2
      exact h2.symm
    subst hi
    walk_at "dgo"
    refine ⟨ws, pre.length, rfl, by rw [Int.zero_add], by omega, w3, ?_⟩
    refine ⟨S, stAt S ws pre.length, colAt ws pre.length, rfl, rfl, rfl, ok, stAt_lt ok w1 w2 _, by rw [← w1]; exact colAt_mem w2 _, ?_⟩
    refine hnx _ _ ⟨some (.int (0 + (pre.length : Int))), ?_, rfl⟩
    rw [List.length_append, List.length_singleton]
    rfl
  · rintro σ h' ⟨v3, rfl, rfl⟩
    rw [List.length_range]
    unfold specD tblD
    walk_at "dgo"
    refine oAt_of (tbl_at S.tbl (stAt_lt ok w1 w2 _)) ?_
    unfold rowD
    walk_at "dgo"
    exact Wk.of q
end
end My
namespace My
open PySem PySem.Spec PyProof.Rows L2 DL
/-- a table of so many rows and letters -/
structure TblOk (r l : Nat) (t : List (Bool × List Nat)) : Prop where
  t1 : 1 ≤ t.length
  t8 : t.length ≤ 4
  row : ∀ e ∈ t, e.2.length = (l + 1) ^ r - 1 ∧ ∀ n ∈ e.2, n < t.length
def sp_wby_rows : DSp := sp3 fun a b c h P => ∃ (p : Addr) (r l : Nat), a = .ref p ∧ b = nD r ∧ c = nD l ∧ 2 ≤ r ∧ r ≤ 4 ∧ 1 ≤ l ∧ l ≤ 2 ∧ PoolIn h p ∧ ∀ tbl, TblOk r l tbl → P (.rol (tbl.map rowD)) h
theorem many_at {cs : List Nat} (h : cs.length ≤ 2) : atI [D.int 1, D.int 2, D.int 4] (cs.length : Int) = some (nD (2 ^ cs.length)) := by
  rcases (show cs.length = 0 ∨ cs.length = 1 ∨ cs.length = 2 by omega) with e | e | e <;> rw [e, atI_n] <;> rfl
theorem pm_at {i : Int} (h0 : 0 ≤ i) (h2 : i < 2) : atI [D.int 1, D.int (-1)] i = some (.int (1 - 2 * i)) := by
  rcases (show i = 0 ∨ i = 1 by omega) with rfl | rfl
  · exact atI_0 _ _
  · exact atI_1 _ _ _
theorem flip_lt {n i lt : Nat} (hn : n ≤ 2) (hi : i < n) (hl : lt < 2 ^ n) : ∃ m : Nat, (lt : Int) + (1 - 2 * ((lt : Int) / (1 + i) % 2)) * (1 + i) = m ∧ m < 2 ^ n := by
  rcases (show n = 1 ∨ n = 2 by omega) with rfl | rfl
  · have : i = 0 := by omega
    subst this
    refine ⟨1 - lt, ?_, ?_⟩
    · have : lt < 2 := hl
      rcases (show lt = 0 ∨ lt = 1 by omega) with rfl | rfl <;> decide
    · show 1 - lt < 2
      omega
  · have h4 : lt < 4 := hl
    rcases (show i = 0 ∨ i = 1 by omega) with rfl | rfl
    · rcases (show lt = 0 ∨ lt = 1 ∨ lt = 2 ∨ lt = 3 by omega) with rfl | rfl | rfl | rfl
      · exact ⟨1, by decide, by decide⟩
      · exact ⟨0, by decide, by decide⟩
      · exact ⟨3, by decide, by decide⟩
      · exact ⟨2, by decide, by decide⟩
    · rcases (show lt = 0 ∨ lt = 1 ∨ lt = 2 ∨ lt = 3 by omega) with rfl | rfl | rfl | rfl
      · exact ⟨2, by decide, by decide⟩
      · exact ⟨3, by decide, by decide⟩
      · exact ⟨0, by decide, by decide⟩
      · exact ⟨1, by decide, by decide⟩
theorem map_encC_tail (r l : Nat) : ((cols r (sg l)).map encC).tail = ((cols r (sg l)).tail).map encC := by rw [List.map_tail]
theorem tail_len {r l : Nat} (hl : l ≤ 2) : ((cols r (sg l)).tail).length = (l + 1) ^ r - 1 := by rw [List.length_tail, cols_len, sg_len hl]
theorem col_str {r l : Nat} {c : List Nat} (hc : c ∈ cols r (sg l)) {i : Nat} (hi : i < r) : ∃ s, c[i]? = some s ∧ s ∈ sg l ∧ atI (c.map sgD) (i : Int) = some (sgD s) := by
  have h := (cols_mem.mp hc).1
  have hi' : i < c.length := by omega
  refine ⟨c[i], List.getElem?_eq_getElem hi', (cols_mem.mp hc).2 _ (List.getElem_mem hi'), ?_⟩
  rw [atI_n, List.getElem?_map, List.getElem?_eq_getElem hi']
  rfl
theorem paired_nats {α : Type} {Q : Nat → Prop} : ∀ {zs : List α} {ds : List D}, Paired (fun _ d => ∃ m : Nat, d = nD m ∧ Q m) zs ds → ∃ gs : List Nat, ds = gs.map nD ∧ gs.length = zs.length ∧ ∀ g ∈ gs, Q g
  | [], _, .nil => ⟨[], rfl, rfl, fun g h => by cases h⟩
  | z :: zs, d :: ds, .cons r t => by
    obtain ⟨gs, e, hl, hq⟩ := paired_nats t
    obtain ⟨m, rfl, hm⟩ := r
    exact ⟨m :: gs, by rw [e]; rfl, by rw [List.length_cons, List.length_cons, hl], fun g hg => by
      rcases List.mem_cons.mp hg with h | h
      · rw [h]; exact hm
      · exact hq g h⟩
section
variable {P : Program} {w : World} {K : PySem.W.Frag} {mg : Str → Option Value} {base : Heap}
theorem ok_wby_rows (T : Txt K mg) : DFn P w K mg base 3 T.a_wby_rows T.d_wby_rows ["pool", "rows", "letters"] sp_wby_rows := by
  refine dfn3 T.F_wby_rows sc_wby_rows rfl (fun cdv A outer s H E hr => ⟨_, (dss_cons (ds_set (i := 3) sc_wby_rows.nd rfl (by first | exact Or.inl rfl | exact Or.inr rfl) (de_frz (de_sl (de_frz (de_lc (own := [("row", 12)]) rfl sc_wby_rows.nd (di_range1 (by rfl) T.b_range (da_cons (de_var 1) da_nil)) (blkOk_by (N := ["pool", "rows", "letters", "counted", "sign", "many", "table", "standing", "nexts", "column", "later", "at", "row"]) (sc := defScope s_wby_rows) (own := [("row", 12)]) (by decide +kernel)) (by decide) (fun _ _ _ _ _ => (dg_name (i := 12) sc_wby_rows.nd rfl (by first | exact Or.inl rfl | exact Or.inr rfl))) (fun _ _ _ _ _ => (dts_one (dt_cmp (op_dEqA hr.units) (de_call (ok_wdraw T) (hr.mono (by decide)) (by rfl) T.m_wdraw T.F_wdraw.kp T.b_wdraw (da_cons (de_var 0) (da_cons de_int da_nil))) de_int (nomark _)))) (fun _ _ _ _ _ => (de_var 12)))) do_none (do_some de_int))))
  (dss_cons (ds_set (i := 4) sc_wby_rows.nd rfl (by first | exact Or.inl rfl | exact Or.inr rfl) (de_call (ok_wpick T) (hr.mono (by decide)) (by rfl) T.m_wpick T.F_wpick.kp T.b_wpick (da_cons (de_var 0) (da_cons (de_frz (de_sl (de_frz (de_lst (da_cons de_str (da_cons de_str (da_cons de_str da_nil))))) do_none (do_some (de_op op_dSub (de_op op_dMul de_int (de_var 2)) de_int)))) da_nil))))
  (dss_cons (ds_set (i := 5) sc_wby_rows.nd rfl (by first | exact Or.inl rfl | exact Or.inr rfl) (de_ix (de_frz (de_lst (da_cons de_int (da_cons de_int (da_cons de_int da_nil))))) (de_callB call_dLen (by rfl) T.b_len (by decide +kernel) (da_cons (de_var 3) da_nil))))
  (dss_cons (ds_set (i := 6) sc_wby_rows.nd rfl (by first | exact Or.inl rfl | exact Or.inr rfl) (de_lst da_nil))
  (dss_cons (ds_for PassesOwn.never rfl (di_range1 (by rfl) T.b_range (da_cons (de_var 5) da_nil)) (dg_name (i := 7) sc_wby_rows.nd rfl (by first | exact Or.inl rfl | exact Or.inr rfl))
  (dss_less (dss_cons (ds_set (i := 8) sc_wby_rows.nd rfl (by first | exact Or.inl rfl | exact Or.inr rfl) (de_lst da_nil))
  (dss_cons (ds_for PassesOwn.never rfl (di_list (de_frz (de_sl (de_call (ok_wcolumns T) (hr.mono (by decide)) (by rfl) T.m_wcolumns T.F_wcolumns.kp T.b_wcolumns (da_cons (de_var 1) (da_cons (de_var 2) da_nil))) (do_some de_int) do_none))) (dg_name (i := 9) sc_wby_rows.nd rfl (by first | exact Or.inl rfl | exact Or.inr rfl))
  (dss_cons (ds_set (i := 10) sc_wby_rows.nd rfl (by first | exact Or.inl rfl | exact Or.inr rfl) (de_var 7))
  (dss_cons (ds_for PassesOwn.never rfl (di_enum (by rfl) T.b_enumerate (da_cons (de_var 3) da_nil)) (dg_tup (n := 2) rfl (dgs_cons (dg_name (i := 11) sc_wby_rows.nd rfl (by first | exact Or.inl rfl | exact Or.inr rfl)) (dgs_cons (dg_name (i := 12) sc_wby_rows.nd rfl (by first | exact Or.inl rfl | exact Or.inr rfl)) dgs_nil)))
  (dss_one (ds_if (dt_cmp (op_dInA hr.units) (de_ix (de_var 9) (de_var 12)) (de_var 4) (by rfl))
  (dss_one (ds_set (i := 10) sc_wby_rows.nd rfl (by first | exact Or.inl rfl | exact Or.inr rfl) (de_op op_dAdd (de_var 10) (de_op op_dMul (de_ix (de_frz (de_lst (da_cons de_int (da_cons (de_neg de_int) da_nil)))) (de_op op_dMod (de_callTy call_dInt (by rfl) T.b_int (by decide +kernel) (da_cons (de_op op_dFdiv (de_var 10) (de_op op_dAdd de_int (de_var 11))) da_nil)) de_int)) (de_op op_dAdd de_int (de_var 11))))))
  dss_nil)))
  (dss_one (ds_expr (de_ml PySem.F.slot_list_append PySem.F.type_list_append mt_dAppend (de_var 8) (da_cons (de_var 10) da_nil)))))))
  (dss_one (ds_expr (de_ml PySem.F.slot_list_append PySem.F.type_list_append mt_dAppend (de_var 6) (da_cons (de_tup (da_cons (de_cmp (op_dEqA hr.units) (de_call (ok_wdraw T) (hr.mono (by decide)) (by rfl) T.m_wdraw T.F_wdraw.kp T.b_wdraw (da_cons (de_var 0) (da_cons de_int da_nil))) de_int (nomark _)) (da_cons (de_callTy call_dTupOf (by rfl) T.b_tuple (by decide +kernel) (da_cons (de_var 8) da_nil)) da_nil))) da_nil))))))))
  (dss_one (ds_ret (de_frz (de_var 6))))))))), fun p0 p1 p2 h Q q => ?_⟩)
  rw [show dstart ["pool", "rows", "letters", "counted", "sign", "many", "table", "standing", "nexts", "column", "later", "at", "row"] [p0, p1, p2] = [some p0, some p1, some p2, none, none, none, none, none, none, none, none, none, none] from rfl]
  obtain ⟨p, r, l, rfl, rfl, rfl, r2, r4, l1, l2, pool, q⟩ := q
  have line81 := line81
  have c81 := cols_small l2 r4
  walk_at "dgo"
  refine ⟨⟨by omega, by omega⟩, ?_⟩
  rw [Int.toNat_natCast]
  refine lcR (fun (i : Nat) => .int ((0 : Int) + i)) (List.range r) (fun _ d => ∃ m : Nat, d = nD m ∧ m < r) rfl (fun _ _ => trivial) (fun i hi h1 s1 R R' hR hR' => ?_) (by rw [List.length_range]; omega) (fun zs ds hs hf => ?_)
  · walk_at "dgo"
    refine ⟨p, 2, rfl, rfl, by decide, by decide, pool.sub s1, fun d hd => ?_⟩
    walk_at "dgo"
    cases decide ((d : Int) = 0) <;> walk_at "dgo"
    · exact hR'
    · exact hR _ ⟨i, by rw [Int.zero_add], List.mem_range.mp hi⟩
  obtain ⟨cs0, rfl, hcs0, hlt0⟩ := paired_nats hf
  walk_at "dgo"
  rw [cut_2, ← List.map_take]
  refine frsh ?_
  have hcl : (cs0.take 2).length ≤ 2 := by rw [List.length_take]; omega
  have hcs : ∀ c ∈ cs0.take 2, c < r := fun c hc => hlt0 c (List.mem_of_mem_take hc)
  generalize cs0.take 2 = cs at hcl hcs
  have p2 : 2 ^ cs.length ≤ 4 := Nat.pow_le_pow_right (by decide) hcl
  have p1 : 0 < 2 ^ cs.length := Nat.pow_pos (by decide)
  walk_at "dgo"
  refine frsh ?_
  walk_at "dgo"
  refine ⟨CMul.smallL (by decide) (by decide), ?_⟩
  rw [show (2 : Int) * l - 1 = ((2 * l - 1 : Nat) : Int) by omega, cut_to]
  refine frsh ?_
  refine ⟨p, _, rfl, rfl, ?_, ?_, pool, fun x hx => ?_⟩
  · rw [List.length_take]; simp; omega
  · rw [List.length_take]; simp; omega
  have hx2 : ∃ z : Str, x = .str z := by
    have := List.mem_of_mem_take hx
    simp at this
    rcases this with rfl | rfl | rfl <;> exact ⟨_, rfl⟩
  obtain ⟨z, rfl⟩ := hx2
  walk_at "dgo"
  refine frsh ?_
  walk_at "dgo"
  rw [List.length_map]
  refine oAt_of (many_at hcl) (fun Tt nT => ?_)
  refine ⟨by omega, ?_⟩
  rw [Int.toNat_natCast]
  refine for_pre (fun (i : Nat) => .int ((0 : Int) + i)) (List.range (2 ^ cs.length)) rfl (fun pre σ h' => ∃ (rows : List (Bool × List Nat)) (v7 v8 v9 v10 v11 v12 : Option D), σ = [some (.ref p), some (nD r), some (nD l), some (.rol (cs.map nD)), some (.str z), some (nD (2 ^ cs.length)), some (.ref Tt), v7, v8, v9, v10, v11, v12] ∧ h' = put h Tt (.lst (rows.map rowD)) ∧ rows.length = pre.length ∧
    ∀ e ∈ rows, e.2.length = (l + 1) ^ r - 1 ∧ ∀ n ∈ e.2, n < 2 ^ cs.length) ⟨[], none, none, none, none, none, none, rfl, rfl, rfl, fun e he => by cases he⟩ (fun _ _ _ _ => trivial) ?_ ?_
  · rintro pre i post σ h6 e ⟨rows, v7, v8, v9, v10, v11, v12, rfl, rfl, hrl, hrows⟩ nx hnx
    have hi : i < 2 ^ cs.length := List.mem_range.mp (by rw [e]; exact List.mem_append_right _ List.mem_cons_self)
    have hpre : pre.length < 2 ^ cs.length := by
      have := congrArg List.length e
      rw [List.length_range, List.length_append, List.length_cons] at this
      omega
    walk_at "dgo"
    intro N nN
    have nTN : Tt ≠ N := ne_none put_same nN
    have nNh : h N = none := (Sub.new nT).free nN
    have sT : ∀ o u, Sub h (put (put h Tt o) N u) := fun o u => (Sub.new nT).trans (Sub.new (by rw [put_ne nTN.symm]; exact nNh))
    refine ⟨r, l, rfl, rfl, r4, l1, l2, ?_⟩
    unfold colsD
    walk_at "dgo"
    rw [cut_one, map_encC_tail]
    refine frsh ?_
    walk_at "dgo"
    refine for_pre encC ((cols r (sg l)).tail) rfl (fun pre2 σ h3 => ∃ (ns : List Nat) (v9 v10 v11 v12 : Option D), σ = [some (.ref p), some (nD r), some (nD l), some (.rol (cs.map nD)), some (.str z), some (nD (2 ^ cs.length)), some (.ref Tt), some (.int (0 + i)), some (.ref N), v9, v10, v11, v12] ∧ h3 = put (put h Tt (.lst (rows.map rowD))) N (.lst (ns.map nD)) ∧ ns.length = pre2.length ∧ ∀ n ∈ ns, n < 2 ^ cs.length)
      ⟨[], v9, v10, v11, v12, rfl, rfl, rfl, fun n hn => by cases hn⟩ (fun _ _ _ _ => trivial) ?_ ?_
    · rintro pre2 c post2 σ h3 e2 ⟨ns, v9, v10, v11, v12, rfl, rfl, hnl, hns⟩ nx2 hnx2
      have hc2 : c ∈ cols r (sg l) := List.mem_of_mem_tail (by rw [e2]; exact List.mem_append_right _ List.mem_cons_self)
      have hpl : pre2.length < 81 := by
        have := congrArg List.length e2
        rw [List.length_tail, List.length_append, List.length_cons] at this
        omega
      walk_at "dgo"
      refine for_pre (fun (t : Nat) => .tup [.int (t : Int), nD (cs.getD t 0)]) (List.range cs.length) (numbered_nats cs) (fun _ σ h4 => ∃ (lt : Nat) (v11 v12 : Option D), σ = [some (.ref p), some (nD r), some (nD l), some (.rol (cs.map nD)), some (.str z), some (nD (2 ^ cs.length)), some (.ref Tt), some (.int (0 + i)), some (.ref N), some (encC c), some (nD lt), v11, v12] ∧ lt < 2 ^ cs.length ∧ h4 = put (put h Tt (.lst (rows.map rowD))) N (.lst (ns.map nD)))
        ⟨i, v11, v12, by rw [Int.zero_add], hi, rfl⟩ (fun _ _ _ _ => trivial) ?_ ?_
      · rintro pre3 t post3 σ h4 e3 ⟨lt, v11, v12, rfl, hlt, rfl⟩ nx3 hnx3
        have ht : t < cs.length := List.mem_range.mp (by rw [e3]; exact List.mem_append_right _ List.mem_cons_self)
        have hrow := hcs _ (List.mem_of_getElem? (getD_some 0 ht))
        obtain ⟨sgn, _, _, esg⟩ := col_str hc2 hrow
        unfold encC
        walk_at "dgo"
        refine oAt_of esg ?_
        unfold sgD
        walk_at "dgo"
        cases inStr _ z
        · walk_at "dgo"
          exact hnx3 _ _ ⟨lt, _, _, rfl, hlt, rfl⟩
        · walk_at "dgo"
          refine frsh ?_
          walk_at "dgo"
          refine ⟨⟨by omega, by omega⟩, by decide, oAt_of (pm_at (Int.emod_nonneg _ (by decide)) (Int.emod_lt_of_pos _ (by decide))) ?_⟩
          walk_at "dgo"
          obtain ⟨m, em, hm⟩ := flip_lt hcl ht hlt
          refine ⟨CMul.small (by omega) (by omega), ?_⟩
          rw [em]
          exact hnx3 _ _ ⟨m, _, _, rfl, hm, rfl⟩
      · rintro σ h4 ⟨lt, v11, v12, rfl, hlt, rfl⟩
        walk_at "dgo"
        refine lstAt_of put_same (lstAt_of put_same ⟨by rw [List.length_map]; omega, ?_⟩)
        refine hnx2 _ _ ⟨ns ++ [lt], _, _, _, _, rfl, by rw [put_put, List.map_append]; rfl, by rw [List.length_append, List.length_append, hnl]; rfl, fun n hn => ?_⟩
        rcases List.mem_append.mp hn with hn | hn
        · exact hns n hn
        · rw [List.mem_singleton.mp hn]; exact hlt
    · rintro σ h3 ⟨ns, v9, v10, v11, v12, rfl, rfl, hnl, hns⟩
      rw [tail_len l2] at hnl
      have hnl2 : ns.length ≤ 81 := by
        rw [hnl, ← sg_len l2, ← cols_len]
        omega
      walk_at "dgo"
      refine lstAt_of (by rw [put_ne nTN]; exact put_same) ?_
      refine ⟨p, 2, rfl, rfl, by decide, by decide, pool.sub (sT _ _), fun d hd => ?_⟩
      walk_at "dgo"
      refine lstAt_of put_same ?_
      refine lstAt_of (by rw [put_ne nTN]; exact put_same) ⟨by rw [List.length_map]; omega, ?_⟩
      rw [put_over nTN]
      refine ⟨put h Tt (.lst ((rows ++ [(decide ((d : Int) = 0), ns)]).map rowD)), Abs.of ?_, hnx _ _ ⟨rows ++ [(decide ((d : Int) = 0), ns)], _, _, _, _, _, _, rfl, rfl, by rw [List.length_append, List.length_append, hrl]; rfl, fun e he => ?_⟩⟩
      · rw [List.map_append]
        exact Sub.new (by rw [put_ne nTN.symm]; exact nNh)
      · rcases List.mem_append.mp he with he | he
        · exact hrows e he
        · rw [List.mem_singleton.mp he]
          exact ⟨hnl, hns⟩
  · rintro σ h6 ⟨rows, v7, v8, v9, v10, v11, v12, rfl, rfl, hrl, hrows⟩
    rw [List.length_range] at hrl
    walk_at "dgo"
    rw [frz_new nT]
    exact Wk.of (q rows ⟨by omega, by omega, fun e he => by rw [hrl]; exact hrows e he⟩)
end
end My
namespace My
open PySem PySem.Spec PyProof.Rows L2 DL
def sp_wdrawn_table : DSp := sp5 fun a b c d e h P => ∃ (p : Addr) (r l m : Nat) (pl : Bool), a = .ref p ∧ b = nD r ∧ c = nD l ∧ d = nD m ∧ e = .bl pl ∧ 2 ≤ r ∧ r ≤ 4 ∧ 1 ≤ l ∧ l ≤ 2 ∧ 1 ≤ m ∧ m ≤ 4 ∧ PoolIn h p ∧
  ∀ tbl, TblOk r l tbl → P (.rol (tbl.map rowD)) h
section
variable {P : Program} {w : World} {K : PySem.W.Frag} {mg : Str → Option Value} {base : Heap}
theorem ok_wdrawn_table (T : Txt K mg) : DFn P w K mg base 2 T.a_wdrawn_table T.d_wdrawn_table ["pool", "rows", "letters", "many", "plain"] sp_wdrawn_table := by
  refine dfn5 T.F_wdrawn_table sc_wdrawn_table rfl (fun cdv A outer s H E hr => ⟨_, (dss_cons (ds_set (i := 5) sc_wdrawn_table.nd rfl (by first | exact Or.inl rfl | exact Or.inr rfl) (de_op op_dSub (de_callB call_dLen (by rfl) T.b_len (by decide +kernel) (da_cons (de_call (ok_wcolumns T) (hr.mono (by decide)) (by rfl) T.m_wcolumns T.F_wcolumns.kp T.b_wcolumns (da_cons (de_var 1) (da_cons (de_var 2) da_nil))) da_nil)) de_int))
  (dss_cons (ds_set (i := 6) sc_wdrawn_table.nd rfl (by first | exact Or.inl rfl | exact Or.inr rfl) (de_lst da_nil))
  (dss_cons (ds_for PassesOwn.never rfl (di_range1 (by rfl) T.b_range (da_cons (de_var 3) da_nil)) (dg_name (i := 7) sc_wdrawn_table.nd rfl (by first | exact Or.inl rfl | exact Or.inr rfl))
  (dss_less (dss_cons (ds_set (i := 8) sc_wdrawn_table.nd rfl (by first | exact Or.inl rfl | exact Or.inr rfl) (de_call (ok_wdraw T) (hr.mono (by decide)) (by rfl) T.m_wdraw T.F_wdraw.kp T.b_wdraw (da_cons (de_var 0) (da_cons (de_var 3) da_nil))))
  (dss_cons (ds_set (i := 9) sc_wdrawn_table.nd rfl (by first | exact Or.inl rfl | exact Or.inr rfl) (de_lst da_nil))
  (dss_cons (ds_for PassesOwn.never rfl (di_range1 (by rfl) T.b_range (da_cons (de_var 5) da_nil)) (dg_name (i := 10) sc_wdrawn_table.nd rfl (by first | exact Or.inl rfl | exact Or.inr rfl))
  (dss_cons (ds_set (i := 11) sc_wdrawn_table.nd rfl (by first | exact Or.inl rfl | exact Or.inr rfl) (de_call (ok_wdraw T) (hr.mono (by decide)) (by rfl) T.m_wdraw T.F_wdraw.kp T.b_wdraw (da_cons (de_var 0) (da_cons (de_var 3) da_nil))))
  (dss_one (ds_expr (de_ml PySem.F.slot_list_append PySem.F.type_list_append mt_dAppend (de_var 9) (da_cons (de_ifExp (dw_and (dt_val (de_var 4)) (dw_and1 (dt_cmp op_dGt (de_call (ok_wdraw T) (hr.mono (by decide)) (by rfl) T.m_wdraw T.F_wdraw.kp T.b_wdraw (da_cons (de_var 0) (da_cons de_int da_nil))) de_int (nomark _)))).dt (de_var 8) (de_var 11)) da_nil))))))
  (dss_one (ds_expr (de_ml PySem.F.slot_list_append PySem.F.type_list_append mt_dAppend (de_var 6) (da_cons (de_tup (da_cons (de_cmp (op_dEqA hr.units) (de_call (ok_wdraw T) (hr.mono (by decide)) (by rfl) T.m_wdraw T.F_wdraw.kp T.b_wdraw (da_cons (de_var 0) (da_cons de_int da_nil))) de_int (nomark _)) (da_cons (de_callTy call_dTupOf (by rfl) T.b_tuple (by decide +kernel) (da_cons (de_var 9) da_nil)) da_nil))) da_nil)))))))))
  (dss_one (ds_ret (de_frz (de_var 6))))))), fun p0 p1 p2 p3 p4 h Q q => ?_⟩)
  rw [show dstart ["pool", "rows", "letters", "many", "plain", "wide", "table", "standing", "usual", "nexts", "column", "later"] [p0, p1, p2, p3, p4] = [some p0, some p1, some p2, some p3, some p4, none, none, none, none, none, none, none] from rfl]
  obtain ⟨p, r, l, m, pl, rfl, rfl, rfl, rfl, rfl, r2, r4, l1, l2, m1, m4, pool, q⟩ := q
  have line81 := line81
  have clen : (cols r (sg l)).length = (l + 1) ^ r := by rw [cols_len, sg_len l2]
  have cpos : 1 ≤ (l + 1) ^ r := Nat.pow_pos (by omega)
  have c81 := cols_small l2 r4
  walk_at "dgo"
  refine ⟨r, l, rfl, rfl, r4, l1, l2, ?_⟩
  unfold colsD
  walk_at "dgo"
  intro Tt nT
  rw [List.length_map, clen]
  refine ⟨by omega, ?_⟩
  rw [Int.toNat_natCast]
  refine for_pre (fun (i : Nat) => .int ((0 : Int) + i)) (List.range m) rfl (fun pre σ h' => ∃ (rows : List (Bool × List Nat)) (v7 v8 v9 v10 v11 : Option D), σ = [some (.ref p), some (nD r), some (nD l), some (nD m), some (.bl pl), some (.int (((l + 1) ^ r : Nat) - 1)), some (.ref Tt), v7, v8, v9, v10, v11] ∧ h' = put h Tt (.lst (rows.map rowD)) ∧ rows.length = pre.length ∧
    ∀ e ∈ rows, e.2.length = (l + 1) ^ r - 1 ∧ ∀ n ∈ e.2, n < m) ⟨[], none, none, none, none, none, rfl, rfl, rfl, fun e he => by cases he⟩ (fun _ _ _ _ => trivial) ?_ ?_
  · rintro pre i post σ h6 e ⟨rows, v7, v8, v9, v10, v11, rfl, rfl, hrl, hrows⟩ nx hnx
    have hpre : pre.length < m := by
      have := congrArg List.length e
      rw [List.length_range, List.length_append, List.length_cons] at this
      omega
    walk_at "dgo"
    refine ⟨p, m, rfl, rfl, by omega, by omega, pool.sub (Sub.new nT), fun us hus => ?_⟩
    walk_at "dgo"
    intro N nN
    have nTN : Tt ≠ N := ne_none put_same nN
    have nNh : h N = none := (Sub.new nT).free nN
    have sT : ∀ o u, Sub h (put (put h Tt o) N u) := fun o u => (Sub.new nT).trans (Sub.new (by rw [put_ne nTN.symm]; exact nNh))
    refine ⟨by omega, ?_⟩
    rw [show (((l + 1) ^ r : Nat) - 1 : Int).toNat = (l + 1) ^ r - 1 by omega]
    refine for_pre (fun (i : Nat) => .int ((0 : Int) + i)) (List.range ((l + 1) ^ r - 1)) rfl (fun pre2 σ h3 => ∃ (ns : List Nat) (v10 v11 : Option D), σ = [some (.ref p), some (nD r), some (nD l), some (nD m), some (.bl pl), some (.int (((l + 1) ^ r : Nat) - 1)), some (.ref Tt), some (.int (0 + i)), some (.int us), some (.ref N), v10, v11] ∧ h3 = put (put h Tt (.lst (rows.map rowD))) N (.lst (ns.map nD)) ∧ ns.length = pre2.length ∧ ∀ n ∈ ns, n < m)
      ⟨[], v10, v11, rfl, rfl, rfl, fun n hn => by cases hn⟩ (fun _ _ _ _ => trivial) ?_ ?_
    · rintro pre2 j post2 σ h3 e2 ⟨ns, v10, v11, rfl, rfl, hnl, hns⟩ nx2 hnx2
      have hpl : pre2.length < 81 := by
        have := congrArg List.length e2
        rw [List.length_range, List.length_append, List.length_cons] at this
        omega
      walk_at "dgo"
      refine ⟨p, m, rfl, rfl, by omega, by omega, pool.sub (sT _ _), fun lt hlt => ?_⟩
      walk_at "dgo"
      refine lstAt_of put_same ?_
      have both : ∀ x : Nat, x < m → lstAt (put (put h Tt (.lst (rows.map rowD))) N (.lst (ns.map nD))) N fun xs => xs.length < sizeLine ∧ nx2 [some (.ref p), some (nD r), some (nD l), some (nD m), some (.bl pl), some (.int (((l + 1) ^ r : Nat) - 1)), some (.ref Tt), some (.int (0 + i)), some (.int us), some (.ref N), some (.int (0 + j)), some (.int (lt : Int))] (put (put (put h Tt (.lst (rows.map rowD))) N (.lst (ns.map nD))) N (.lst (xs ++ [.int x]))) := fun x hx => by
        refine lstAt_of put_same ⟨by rw [List.length_map]; omega, hnx2 _ _ ⟨ns ++ [x], _, _, rfl, by rw [put_put, List.map_append]; rfl, by rw [List.length_append, List.length_append, hnl]; rfl, fun n hn => ?_⟩⟩
        rcases List.mem_append.mp hn with hn | hn
        · exact hns n hn
        · rw [List.mem_singleton.mp hn]; exact hx
      cases pl <;> walk_at "dgo"
      · exact both lt hlt
      · refine ⟨p, 3, rfl, rfl, by decide, by decide, pool.sub (sT _ _), fun d hd => ?_⟩
        walk_at "dgo"
        cases decide ((d : Int) > 0) <;> walk_at "dgo"
        · exact both lt hlt
        · exact both us hus
    · rintro σ h3 ⟨ns, v10, v11, rfl, rfl, hnl, hns⟩
      rw [List.length_range] at hnl
      walk_at "dgo"
      refine lstAt_of (by rw [put_ne nTN]; exact put_same) ?_
      refine ⟨p, 2, rfl, rfl, by decide, by decide, pool.sub (sT _ _), fun d hd => ?_⟩
      walk_at "dgo"
      refine lstAt_of put_same ?_
      refine lstAt_of (by rw [put_ne nTN]; exact put_same) ⟨by rw [List.length_map]; omega, ?_⟩
      rw [put_over nTN]
      refine ⟨put h Tt (.lst ((rows ++ [(decide ((d : Int) = 0), ns)]).map rowD)), Abs.of ?_, hnx _ _ ⟨rows ++ [(decide ((d : Int) = 0), ns)], _, _, _, _, _, rfl, rfl, by rw [List.length_append, List.length_append, hrl]; rfl, fun e he => ?_⟩⟩
      · rw [List.map_append]
        exact Sub.new (by rw [put_ne nTN.symm]; exact nNh)
      · rcases List.mem_append.mp he with he | he
        · exact hrows e he
        · rw [List.mem_singleton.mp he]
          exact ⟨hnl, hns⟩
  · rintro σ h6 ⟨rows, v7, v8, v9, v10, v11, rfl, rfl, hrl, hrows⟩
    rw [List.length_range] at hrl
    walk_at "dgo"
    rw [frz_new nT]
    exact Wk.of (q rows ⟨by omega, by omega, fun e he => by rw [hrl]; exact hrows e he⟩)
end
end My
namespace My
open PySem PySem.Spec PyProof.Rows L2 DL
theorem dig_le {l s : Nat} (hl : l ≤ 2) (h : s ∈ sg l) : dig s ≤ l := by have := (sg_at hl h).2; omega
def sp_wfirst_signs : DSp := sp_wby_rows
section
variable {P : Program} {w : World} {K : PySem.W.Frag} {mg : Str → Option Value} {base : Heap}
theorem ok_wfirst_signs (T : Txt K mg) : DFn P w K mg base 2 T.a_wfirst_signs T.d_wfirst_signs ["pool", "rows", "letters"] sp_wfirst_signs := by
  refine dfn3 T.F_wfirst_signs sc_wfirst_signs rfl (fun cdv A outer s H E hr => ⟨_, (dss_cons (ds_asg (de_tup (da_cons (de_call (ok_wdraw T) (hr.mono (by decide)) (by rfl) T.m_wdraw T.F_wdraw.kp T.b_wdraw (da_cons (de_var 0) (da_cons (de_var 1) da_nil))) (da_cons (de_call (ok_wdraw T) (hr.mono (by decide)) (by rfl) T.m_wdraw T.F_wdraw.kp T.b_wdraw (da_cons (de_var 0) (da_cons (de_var 1) da_nil))) da_nil))) (dg_tup (n := 2) rfl (dgs_cons (dg_name (i := 3) sc_wfirst_signs.nd rfl (by first | exact Or.inl rfl | exact Or.inr rfl)) (dgs_cons (dg_name (i := 4) sc_wfirst_signs.nd rfl (by first | exact Or.inl rfl | exact Or.inr rfl)) dgs_nil))))
  (dss_cons (ds_set (i := 5) sc_wfirst_signs.nd rfl (by first | exact Or.inl rfl | exact Or.inr rfl) (de_lst da_nil))
  (dss_cons (ds_frz (by rfl) (ds_setLc (i := 6) (own := [("column", 9)]) rfl sc_wfirst_signs.nd rfl rfl (sw_true rfl rfl rfl (by decide +kernel)) (di_list (de_frz (de_sl (de_call (ok_wcolumns T) (hr.mono (by decide)) (by rfl) T.m_wcolumns T.F_wcolumns.kp T.b_wcolumns (da_cons (de_var 1) (da_cons (de_var 2) da_nil))) (do_some de_int) do_none))) (blkOk_by (N := ["pool", "rows", "letters", "row", "other", "table", "nexts", "at", "stays", "column"]) (sc := defScope s_wfirst_signs) (own := [("column", 9)]) (by decide +kernel)) (by decide) (fun _ _ _ _ _ => (dg_name (i := 9) sc_wfirst_signs.nd rfl (by first | exact Or.inl rfl | exact Or.inr rfl))) (fun _ _ _ _ _ => dts_nil) (fun _ _ _ _ _ => (de_op op_dAdd de_int (de_ms PySem.F.slot_str_find PySem.F.type_str_find mt_dFind de_str (de_ix (de_var 9) (de_var 3)))))))
  (dss_cons (ds_expr (de_ml PySem.F.slot_list_append PySem.F.type_list_append mt_dAppend (de_var 5) (da_cons (de_tup (da_cons (de_cmp (op_dEqA hr.units) (de_call (ok_wdraw T) (hr.mono (by decide)) (by rfl) T.m_wdraw T.F_wdraw.kp T.b_wdraw (da_cons (de_var 0) (da_cons de_int da_nil))) de_int (nomark _)) (da_cons (de_callTy call_dTupOf (by rfl) T.b_tuple (by decide +kernel) (da_cons (de_var 6) da_nil)) da_nil))) da_nil)))
  (dss_cons (ds_for PassesOwn.never rfl (di_range1 (by rfl) T.b_range (da_cons (de_op op_dAdd (de_var 2) de_int) da_nil)) (dg_name (i := 7) sc_wfirst_signs.nd rfl (by first | exact Or.inl rfl | exact Or.inr rfl))
  (dss_cons (ds_frz (by rfl) (ds_setLc (i := 8) (own := [("column", 9)]) rfl sc_wfirst_signs.nd rfl rfl (sw_true rfl rfl rfl (by decide +kernel)) (di_list (de_frz (de_sl (de_call (ok_wcolumns T) (hr.mono (by decide)) (by rfl) T.m_wcolumns T.F_wcolumns.kp T.b_wcolumns (da_cons (de_var 1) (da_cons (de_var 2) da_nil))) (do_some de_int) do_none))) (blkOk_by (N := ["pool", "rows", "letters", "row", "other", "table", "nexts", "at", "stays", "column"]) (sc := defScope s_wfirst_signs) (own := [("column", 9)]) (by decide +kernel)) (by decide) (fun _ _ _ _ _ => (dg_name (i := 9) sc_wfirst_signs.nd rfl (by first | exact Or.inl rfl | exact Or.inr rfl))) (fun _ _ _ _ _ => dts_nil) (fun _ _ _ _ _ => (de_ifExp (dw_or (dt_cmp (op_dEqA hr.units) (de_ix (de_var 9) (de_var 4)) de_str (nomark _)) (dw_or1 (dt_cmp op_dGt (de_var 7) de_int (nomark _)))).dt (de_op op_dAdd de_int (de_var 7)) de_int))))
  (dss_one (ds_expr (de_ml PySem.F.slot_list_append PySem.F.type_list_append mt_dAppend (de_var 5) (da_cons (de_tup (da_cons (de_cmp (op_dEqA hr.units) (de_call (ok_wdraw T) (hr.mono (by decide)) (by rfl) T.m_wdraw T.F_wdraw.kp T.b_wdraw (da_cons (de_var 0) (da_cons de_int da_nil))) de_int (nomark _)) (da_cons (de_callTy call_dTupOf (by rfl) T.b_tuple (by decide +kernel) (da_cons (de_var 8) da_nil)) da_nil))) da_nil))))))
  (dss_one (ds_ret (de_frz (de_var 5))))))))), fun p0 p1 p2 h Q q => ?_⟩)
  rw [show dstart ["pool", "rows", "letters", "row", "other", "table", "nexts", "at", "stays", "column"] [p0, p1, p2] = [some p0, some p1, some p2, none, none, none, none, none, none, none] from rfl]
  obtain ⟨p, r, l, rfl, rfl, rfl, r2, r4, l1, l2, pool, q⟩ := q
  have line81 := line81
  have c81 := cols_small l2 r4
  have tl81 : ((cols r (sg l)).tail).length ≤ 81 := by rw [List.length_tail]; omega
  walk_at "dgo"
  refine ⟨p, r, rfl, rfl, by omega, by omega, pool, fun row hrow => ?_⟩
  refine ⟨p, r, rfl, rfl, by omega, by omega, pool, fun other hother => ?_⟩
  walk_at "dgo"
  intro Tt nT
  refine ⟨r, l, rfl, rfl, r4, l1, l2, ?_⟩
  unfold colsD
  walk_at "dgo"
  rw [cut_one, map_encC_tail]
  refine frsh ?_
  walk_at "dgo"
  refine lcRA encC ((cols r (sg l)).tail) (fun _ d => ∃ m : Nat, d = nD m ∧ m < l + 2) rfl (fun _ _ => trivial) (fun c hc h1 s1 R hR => ?_) (by omega) (fun ds hf => ?_)
  · have hc2 : c ∈ cols r (sg l) := List.mem_of_mem_tail hc
    obtain ⟨sgn, _, hsg, esg⟩ := col_str hc2 hrow
    unfold encC
    walk_at "dgo"
    refine oAt_of esg ?_
    unfold sgD
    walk_at "dgo"
    rw [dab_find sgn (sg_sub hsg), show (1 : Int) + (dig sgn : Int) = ((1 + dig sgn : Nat) : Int) by omega]
    have := dig_le l2 hsg
    exact hR _ ⟨1 + dig sgn, rfl, by omega⟩
  obtain ⟨ns, rfl, hnl, hns⟩ := paired_nats hf
  have hnl2 := hnl
  rw [tail_len l2] at hnl
  walk_at "dgo"
  refine lstAt_of put_same ?_
  refine ⟨p, 2, rfl, rfl, by decide, by decide, pool.sub (Sub.new nT), fun d hd => ?_⟩
  walk_at "dgo"
  refine lstAt_of put_same ⟨by show 0 < _; omega, ⟨by omega, by omega⟩, ?_⟩
  rw [put_put, show ((l : Int) + 1).toNat = l + 1 by omega]
  refine for_pre (fun (i : Nat) => .int ((0 : Int) + i)) (List.range (l + 1)) rfl (fun pre σ h' => ∃ (rows : List (Bool × List Nat)) (v7 v8 : Option D), σ = [some (.ref p), some (nD r), some (nD l), some (.int row), some (.int other), some (.ref Tt), some (.rol (ns.map nD)), v7, v8, none] ∧ h' = put h Tt (.lst (rows.map rowD)) ∧ rows.length = 1 + pre.length ∧
    ∀ e ∈ rows, e.2.length = (l + 1) ^ r - 1 ∧ ∀ n ∈ e.2, n < l + 2) ⟨[(decide ((d : Int) = 0), ns)], none, none, rfl, rfl, rfl, fun e he => ?_⟩ (fun _ _ _ _ => trivial) ?_ ?_
  · rw [List.mem_singleton.mp he]
    exact ⟨hnl, hns⟩
  · rintro pre i post σ h6 e ⟨rows, v7, v8, rfl, rfl, hrl, hrows⟩ nx hnx
    have hi : i < l + 1 := List.mem_range.mp (by rw [e]; exact List.mem_append_right _ List.mem_cons_self)
    have hpre : pre.length < l + 1 := by
      have := congrArg List.length e
      rw [List.length_range, List.length_append, List.length_cons] at this
      omega
    walk_at "dgo"
    refine ⟨r, l, rfl, rfl, r4, l1, l2, ?_⟩
    unfold colsD
    walk_at "dgo"
    rw [cut_one, map_encC_tail]
    refine frsh ?_
    walk_at "dgo"
    refine lcRA encC ((cols r (sg l)).tail) (fun _ d => ∃ m : Nat, d = nD m ∧ m < l + 2) rfl (fun _ _ => trivial) (fun c hc h1 s1 R hR => ?_) (by omega) (fun ds hf => ?_)
    · have hc2 : c ∈ cols r (sg l) := List.mem_of_mem_tail hc
      obtain ⟨sgn, _, hsg, esg⟩ := col_str hc2 hother
      have one := hR (.int 1) ⟨1, rfl, by omega⟩
      have more := hR (.int (1 + (0 + (i : Int)))) ⟨1 + i, by show D.int _ = D.int _; congr 1; omega, by omega⟩
      unfold encC
      walk_at "dgo"
      refine oAt_of esg ?_
      unfold sgD
      walk_at "dgo"
      cases decide ((⟨#[sgn]⟩ : Str) = "-") <;> walk_at "dgo"
      · cases decide ((0 + (i : Int)) > 0) <;> walk_at "dgo"
        · exact one
        · exact more
      · exact more
    obtain ⟨ns2, rfl, hnl3, hns2⟩ := paired_nats hf
    rw [tail_len l2] at hnl3
    walk_at "dgo"
    refine lstAt_of put_same ?_
    refine ⟨p, 2, rfl, rfl, by decide, by decide, pool.sub (Sub.new nT), fun d2 hd2 => ?_⟩
    walk_at "dgo"
    refine lstAt_of put_same ⟨by rw [List.length_map]; omega, ?_⟩
    rw [put_put]
    refine hnx _ _ ⟨rows ++ [(decide ((d2 : Int) = 0), ns2)], _, _, rfl, by rw [List.map_append]; rfl, by rw [List.length_append, List.length_append, hrl]; rfl, fun e he => ?_⟩
    rcases List.mem_append.mp he with he | he
    · exact hrows e he
    · rw [List.mem_singleton.mp he]
      exact ⟨hnl3, hns2⟩
  · rintro σ h6 ⟨rows, v7, v8, rfl, rfl, hrl, hrows⟩
    rw [List.length_range] at hrl
    walk_at "dgo"
    rw [frz_new nT]
    exact Wk.of (q rows ⟨by omega, by omega, fun e he => by rw [hrl, show 1 + (l + 1) = l + 2 by omega]; exact hrows e he⟩)
end
end My
namespace My
open PySem PySem.Spec PyProof.Rows L2 DL
def sp_wcompared : DSp := sp_wby_rows
section
variable {P : Program} {w : World} {K : PySem.W.Frag} {mg : Str → Option Value} {base : Heap}
theorem ok_wcompared (T : Txt K mg) : DFn P w K mg base 2 T.a_wcompared T.d_wcompared ["pool", "rows", "letters"] sp_wcompared := by
  refine dfn3 T.F_wcompared sc_wcompared rfl (fun cdv A outer s H E hr => ⟨_, (dss_cons (ds_set (i := 3) sc_wcompared.nd rfl (by first | exact Or.inl rfl | exact Or.inr rfl) (de_call (ok_wdraw T) (hr.mono (by decide)) (by rfl) T.m_wdraw T.F_wdraw.kp T.b_wdraw (da_cons (de_var 0) (da_cons (de_op op_dSub (de_var 1) de_int) da_nil))))
  (dss_cons (ds_set (i := 4) sc_wcompared.nd rfl (by first | exact Or.inl rfl | exact Or.inr rfl) (de_op op_dAdd (de_op op_dAdd (de_var 3) de_int) (de_call (ok_wdraw T) (hr.mono (by decide)) (by rfl) T.m_wdraw T.F_wdraw.kp T.b_wdraw (da_cons (de_var 0) (da_cons (de_op op_dSub (de_op op_dSub (de_var 1) (de_var 3)) de_int) da_nil)))))
  (dss_cons (ds_set (i := 5) sc_wcompared.nd rfl (by first | exact Or.inl rfl | exact Or.inr rfl) (de_cmp (op_dEqA hr.units) (de_call (ok_wdraw T) (hr.mono (by decide)) (by rfl) T.m_wdraw T.F_wdraw.kp T.b_wdraw (da_cons (de_var 0) (da_cons de_int da_nil))) de_int (nomark _)))
  (dss_cons (ds_set (i := 6) sc_wcompared.nd rfl (by first | exact Or.inl rfl | exact Or.inr rfl) (de_lst da_nil))
  (dss_cons (ds_for PassesOwn.never rfl (di_list (de_frz (de_sl (de_call (ok_wcolumns T) (hr.mono (by decide)) (by rfl) T.m_wcolumns T.F_wcolumns.kp T.b_wcolumns (da_cons (de_var 1) (da_cons (de_var 2) da_nil))) (do_some de_int) do_none))) (dg_name (i := 7) sc_wcompared.nd rfl (by first | exact Or.inl rfl | exact Or.inr rfl))
  (dss_cons (ds_set (i := 8) sc_wcompared.nd rfl (by first | exact Or.inl rfl | exact Or.inr rfl) (de_tup (da_cons (de_ix (de_var 7) (de_var 3)) (da_cons (de_ix (de_var 7) (de_var 4)) da_nil))))
  (dss_cons (ds_set (i := 9) sc_wcompared.nd rfl (by first | exact Or.inl rfl | exact Or.inr rfl) (de_ifExp (dt_val (de_var 5)) (de_cmp (op_dNeA hr.units) (de_ix (de_var 8) de_int) (de_ix (de_var 8) de_int) (nomark _)) (de_cmp (op_dNeA hr.units) (de_cmp (op_dEqA hr.units) (de_ix (de_var 8) de_int) de_str (nomark _)) (de_cmp (op_dEqA hr.units) (de_ix (de_var 8) de_int) de_str (nomark _)) (nomark _))))
  (dss_one (ds_expr (de_ml PySem.F.slot_list_append PySem.F.type_list_append mt_dAppend (de_var 6) (da_cons (de_callTy call_dInt (by rfl) T.b_int (by decide +kernel) (da_cons (de_var 9) da_nil)) da_nil)))))))
  (dss_one (ds_ret (de_frz (de_lst (da_cons (de_tup (da_cons (de_cmp (op_dEqA hr.units) (de_call (ok_wdraw T) (hr.mono (by decide)) (by rfl) T.m_wdraw T.F_wdraw.kp T.b_wdraw (da_cons (de_var 0) (da_cons de_int da_nil))) de_int (nomark _)) (da_cons (de_callTy call_dTupOf (by rfl) T.b_tuple (by decide +kernel) (da_cons (de_var 6) da_nil)) da_nil))) (da_cons (de_tup (da_cons (de_cmp (op_dEqA hr.units) (de_call (ok_wdraw T) (hr.mono (by decide)) (by rfl) T.m_wdraw T.F_wdraw.kp T.b_wdraw (da_cons (de_var 0) (da_cons de_int da_nil))) de_int (nomark _)) (da_cons (de_op op_dMul (de_tup (da_cons de_int da_nil)) (de_callB call_dLen (by rfl) T.b_len (by decide +kernel) (da_cons (de_var 6) da_nil))) da_nil))) da_nil))))))))))), fun p0 p1 p2 h Q q => ?_⟩)
  rw [show dstart ["pool", "rows", "letters", "one", "other", "by_letter", "nexts", "column", "pair", "unlike"] [p0, p1, p2] = [some p0, some p1, some p2, none, none, none, none, none, none, none] from rfl]
  obtain ⟨p, r, l, rfl, rfl, rfl, r2, r4, l1, l2, pool, q⟩ := q
  have line81 := line81
  have c81 := cols_small l2 r4
  have tl81 : ((cols r (sg l)).tail).length ≤ 81 := by rw [List.length_tail]; omega
  have w3 : 3 ≤ (l + 1) ^ r - 1 := by
    have h1 : 2 ^ r ≤ (l + 1) ^ r := Nat.pow_le_pow_left (by omega) r
    have h2 : 2 ^ 2 ≤ 2 ^ r := Nat.pow_le_pow_right (by decide) r2
    omega
  walk_at "dgo"
  refine ⟨p, r - 1, rfl, by congr 1; omega, by omega, by omega, pool, fun one hone => ?_⟩
  walk_at "dgo"
  refine ⟨p, r - one - 1, rfl, by congr 1; omega, by omega, by omega, pool, fun oth hoth => ?_⟩
  walk_at "dgo"
  refine ⟨p, 2, rfl, rfl, by decide, by decide, pool, fun bl hbl => ?_⟩
  walk_at "dgo"
  intro N nN
  refine ⟨r, l, rfl, rfl, r4, l1, l2, ?_⟩
  unfold colsD
  walk_at "dgo"
  rw [cut_one, map_encC_tail]
  refine frsh ?_
  walk_at "dgo"
  rw [show ((one : Int) + 1 + (oth : Int)) = ((one + 1 + oth : Nat) : Int) by omega]
  refine for_pre encC ((cols r (sg l)).tail) rfl (fun pre σ h' => ∃ (ns : List Nat) (v7 v8 v9 : Option D), σ = [some (.ref p), some (nD r), some (nD l), some (.int one), some (.int ((one + 1 + oth : Nat) : Int)), some (.bl (decide ((bl : Int) = 0))), some (.ref N), v7, v8, v9] ∧ h' = put h N (.lst (ns.map nD)) ∧ ns.length = pre.length ∧ ∀ n ∈ ns, n < 2)
    ⟨[], none, none, none, rfl, rfl, rfl, fun n hn => by cases hn⟩ (fun _ _ _ _ => trivial) ?_ ?_
  · rintro pre c post σ h' e ⟨ns, v7, v8, v9, rfl, rfl, hnl, hns⟩ nx hnx
    have hpl : pre.length < 81 := by
      have := congrArg List.length e
      rw [List.length_append, List.length_cons] at this
      omega
    have hc2 : c ∈ cols r (sg l) := List.mem_of_mem_tail (by rw [e]; exact List.mem_append_right _ List.mem_cons_self)
    obtain ⟨sg1, _, _, es1⟩ := col_str hc2 (show one < r by omega)
    obtain ⟨sg2, _, _, es2⟩ := col_str hc2 (show one + 1 + oth < r by omega)
    have both : ∀ (b : Bool) (v8 v9 : Option D), lstAt (put h N (.lst (ns.map nD))) N fun xs => xs.length < sizeLine ∧ nx [some (.ref p), some (nD r), some (nD l), some (.int one), some (.int ((one + 1 + oth : Nat) : Int)), some (.bl (decide ((bl : Int) = 0))), some (.ref N), some (encC c), v8, v9] (put (put h N (.lst (ns.map nD))) N (.lst (xs ++ [.int (if b = true then 1 else 0)]))) := fun b v8 v9 => by
      refine lstAt_of put_same ⟨by rw [List.length_map]; omega, hnx _ _ ⟨ns ++ [if b = true then 1 else 0], _, _, _, rfl, by rw [put_put, List.map_append]; cases b <;> rfl, by rw [List.length_append, List.length_append, hnl]; rfl, fun n hn => ?_⟩⟩
      rcases List.mem_append.mp hn with hn | hn
      · exact hns n hn
      · rw [List.mem_singleton.mp hn]; cases b <;> decide
    unfold encC at both ⊢
    walk_at "dgo"
    refine oAt_of es1 (oAt_of es2 ?_)
    unfold sgD
    walk_at "dgo"
    split
    · exact lstAt_of put_same (both _ _ _)
    · exact lstAt_of put_same (both _ _ _)
  · rintro σ h' ⟨ns, v7, v8, v9, rfl, rfl, hnl, hns⟩
    have w80 : ns.length ≤ 81 := by omega
    rw [tail_len l2] at hnl
    walk_at "dgo"
    refine ⟨p, 2, rfl, rfl, by decide, by decide, pool.sub (Sub.new nN), fun d hd => ?_⟩
    walk_at "dgo"
    refine lstAt_of put_same ⟨p, 2, rfl, rfl, by decide, by decide, pool.sub (Sub.new nN), fun d2 hd2 => ?_⟩
    walk_at "dgo"
    refine lstAt_of put_same ⟨⟨by decide, by rw [List.length_map]; omega, by rw [List.length_map]; omega, by decide⟩, frsh ?_⟩
    refine Wk.to (Sub.new nN) ?_
    have fin := q [(decide ((d : Int) = 0), ns), (decide ((d2 : Int) = 0), List.replicate ns.length 1)] ⟨by show 1 ≤ 2; omega, by show 2 ≤ 4; omega, fun e he => ?_⟩
    · rw [List.length_map, Int.toNat_natCast, List.flatten_replicate_singleton]
      rw [List.map_cons, List.map_cons, List.map_nil] at fin
      unfold rowD at fin
      rw [List.map_replicate] at fin
      exact fin
    · rcases List.mem_cons.mp he with rfl | he
      · exact ⟨hnl, hns⟩
      · rw [List.mem_singleton.mp he]
        refine ⟨by rw [List.length_replicate]; exact hnl, fun n hn => ?_⟩
        rw [List.eq_of_mem_replicate hn]
        show 1 < 2
        omega
end
end My
namespace My
open PySem PySem.Spec PyProof.Rows L2 DL
def sp_wspec : DSp := sp2 fun a b h P => ∃ (p : Addr) (m : Nat), a = .ref p ∧ b = nD m ∧ 2 ≤ m ∧ m ≤ 4 ∧ PoolIn h p ∧ ∀ S : Qs, S.Ok → S.r ≤ m → S.tbl.length ≤ 4 → P (specD S) h
theorem TblOk.qs {r l : Nat} {t : List (Bool × List Nat)} (k : TblOk r l t) (r2 : 2 ≤ r) (r4 : r ≤ 4) (l1 : 1 ≤ l) (l2 : l ≤ 2) : Qs.Ok ⟨r, l, t⟩ := ⟨r2, r4, l1, l2, k.t1, Nat.le_trans k.t8 (by decide), k.row⟩
section
variable {P : Program} {w : World} {K : PySem.W.Frag} {mg : Str → Option Value} {base : Heap}
theorem ok_wspec (T : Txt K mg) : DFn P w K mg base 4 T.a_wspec T.d_wspec ["pool", "most_rows"] sp_wspec := by
  refine dfn2 T.F_wspec sc_wspec rfl (fun cdv A outer s H E hr => ⟨_, (dss_cons (ds_set (i := 2) sc_wspec.nd rfl (by first | exact Or.inl rfl | exact Or.inr rfl) (de_call (ok_wpick T) (hr.mono (by decide)) (by rfl) T.m_wpick T.F_wpick.kp T.b_wpick (da_cons (de_var 0) (da_cons (de_frz (de_lst (da_cons de_int (da_cons de_int (da_cons de_int (da_cons (de_var 1) da_nil)))))) da_nil))))
  (dss_cons (ds_set (i := 3) sc_wspec.nd rfl (by first | exact Or.inl rfl | exact Or.inr rfl) (de_ifExp (dt_cmp op_dGt (de_var 2) de_int (nomark _)) de_int (de_call (ok_wpick T) (hr.mono (by decide)) (by rfl) T.m_wpick T.F_wpick.kp T.b_wpick (da_cons (de_var 0) (da_cons (de_frz (de_lst (da_cons de_int (da_cons de_int (da_cons de_int da_nil))))) da_nil)))))
  (dss_cons (ds_set (i := 4) sc_wspec.nd rfl (by first | exact Or.inl rfl | exact Or.inr rfl) (de_call (ok_wdraw T) (hr.mono (by decide)) (by rfl) T.m_wdraw T.F_wdraw.kp T.b_wdraw (da_cons (de_var 0) (da_cons de_int da_nil))))
  (dss_cons (ds_if (dt_cmp op_dLt (de_var 4) de_int (nomark _))
  (dss_one (ds_set (i := 5) sc_wspec.nd rfl (by first | exact Or.inl rfl | exact Or.inr rfl) (de_call (ok_wdrawn_table T) (hr.mono (by decide)) (by rfl) T.m_wdrawn_table T.F_wdrawn_table.kp T.b_wdrawn_table (da_cons (de_var 0) (da_cons (de_var 2) (da_cons (de_var 3) (da_cons (de_op op_dAdd de_int (de_call (ok_wdraw T) (hr.mono (by decide)) (by rfl) T.m_wdraw T.F_wdraw.kp T.b_wdraw (da_cons (de_var 0) (da_cons de_int da_nil)))) (da_cons (de_cmp (op_dEqA hr.units) (de_var 4) de_int (nomark _)) da_nil))))))))
  (dss_one (ds_if (dt_cmp op_dLt (de_var 4) de_int (nomark _))
  (dss_one (ds_set (i := 5) sc_wspec.nd rfl (by first | exact Or.inl rfl | exact Or.inr rfl) (de_call (ok_wby_rows T) (hr.mono (by decide)) (by rfl) T.m_wby_rows T.F_wby_rows.kp T.b_wby_rows (da_cons (de_var 0) (da_cons (de_var 2) (da_cons (de_var 3) da_nil))))))
  (dss_one (ds_if (dt_cmp op_dLt (de_var 4) de_int (nomark _))
  (dss_one (ds_set (i := 5) sc_wspec.nd rfl (by first | exact Or.inl rfl | exact Or.inr rfl) (de_call (ok_wfirst_signs T) (hr.mono (by decide)) (by rfl) T.m_wfirst_signs T.F_wfirst_signs.kp T.b_wfirst_signs (da_cons (de_var 0) (da_cons (de_var 2) (da_cons (de_var 3) da_nil))))))
  (dss_one (ds_set (i := 5) sc_wspec.nd rfl (by first | exact Or.inl rfl | exact Or.inr rfl) (de_call (ok_wcompared T) (hr.mono (by decide)) (by rfl) T.m_wcompared T.F_wcompared.kp T.b_wcompared (da_cons (de_var 0) (da_cons (de_var 2) (da_cons (de_var 3) da_nil)))))))))))
  (dss_one (ds_ret (de_tup (da_cons (de_var 2) (da_cons (de_var 3) (da_cons (de_callTy call_dTupOf (by rfl) T.b_tuple (by decide +kernel) (da_cons (de_var 5) da_nil)) da_nil)))))))))), fun p0 p1 h Q q => ?_⟩)
  rw [show dstart ["pool", "most_rows", "rows", "letters", "kind", "table"] [p0, p1] = [some p0, some p1, none, none, none, none] from rfl]
  obtain ⟨p, m, rfl, rfl, m2, m4, pool, q⟩ := q
  have line81 := line81
  refine seq_by (fun σ h' => ∃ r : Nat, σ = [some (.ref p), some (nD m), some (nD r), none, none, none] ∧ 2 ≤ r ∧ r ≤ m ∧ h' = h) ?_ fun nx hnx => ?_
  · rintro σ h1 ⟨r, rfl, r2, rm, rfl⟩
    have r4 : r ≤ 4 := by omega
    refine seq_by (fun σ h' => ∃ l : Nat, σ = [some (.ref p), some (nD m), some (nD r), some (nD l), none, none] ∧ 1 ≤ l ∧ l ≤ 2 ∧ h' = h1) ?_ fun nx hnx => ?_
    · rintro σ h2 ⟨l, rfl, l1, l2, rfl⟩
      walk_at "dgo"
      refine ⟨p, 8, rfl, rfl, by decide, by decide, pool, fun kind hkind => ?_⟩
      have fin : ∀ (tbl : List (Bool × List Nat)), TblOk r l tbl → Wk Q (.tup [nD r, nD l, .tup (tbl.map rowD)]) h2 := fun tbl ok =>
        Wk.of (q ⟨r, l, tbl⟩ (ok.qs r2 r4 l1 l2) rm ok.t8)
      walk_at "dgo"
      cases decide ((kind : Int) < 2)
      · walk_at "dgo"
        cases decide ((kind : Int) < 5)
        · walk_at "dgo"
          cases decide ((kind : Int) < 7)
          · walk_at "dgo"
            refine ⟨p, r, l, rfl, rfl, rfl, r2, r4, l1, l2, pool, fun tbl ok => ?_⟩
            walk_at "dgo"
            exact fin tbl ok
          · walk_at "dgo"
            refine ⟨p, r, l, rfl, rfl, rfl, r2, r4, l1, l2, pool, fun tbl ok => ?_⟩
            walk_at "dgo"
            exact fin tbl ok
        · walk_at "dgo"
          refine ⟨p, r, l, rfl, rfl, rfl, r2, r4, l1, l2, pool, fun tbl ok => ?_⟩
          walk_at "dgo"
          exact fin tbl ok
      · walk_at "dgo"
        refine ⟨p, 4, rfl, rfl, by decide, by decide, pool, fun n hn => ?_⟩
        walk_at "dgo"
        refine ⟨p, r, l, 1 + n, _, rfl, rfl, rfl, by congr 1, rfl, r2, r4, l1, l2, by omega, by omega, pool, fun tbl ok => ?_⟩
        walk_at "dgo"
        exact fin tbl ok
    · walk_at "dgo"
      by_cases h3 : r > 3
      · rw [decide_eq_true (by omega)]
        walk_at "dgo"
        exact hnx _ _ ⟨1, rfl, by omega, by omega, rfl⟩
      · rw [decide_eq_false (by omega)]
        walk_at "dgo"
        refine frsh ⟨p, _, rfl, rfl, by decide, by decide, pool, fun x hx => ?_⟩
        have hx2 : x = nD 1 ∨ x = nD 2 := by simp at hx; exact hx
        rcases hx2 with rfl | rfl
        · exact hnx _ _ ⟨1, rfl, by omega, by omega, rfl⟩
        · exact hnx _ _ ⟨2, rfl, by omega, by omega, rfl⟩
  · walk_at "dgo"
    refine frsh ⟨p, _, rfl, rfl, Nat.succ_pos _, (by show 4 ≤ 1000000; omega), pool, fun x hx => ?_⟩
    have hx2 : x = nD 2 ∨ x = nD m := by simp at hx; exact hx
    rcases hx2 with rfl | rfl
    · exact hnx _ _ ⟨2, rfl, by omega, by omega, rfl⟩
    · exact hnx _ _ ⟨m, rfl, by omega, by omega, rfl⟩
end
end My
namespace My
open PySem PySem.Spec PyProof.Rows L2 DL
def sp_wquestion (C : Nat → Addr) : DSp := sp1 fun a h P => ∃ S, a = specD S ∧ S.Ok ∧ ∀ k, h k = none → P (qV C S k) (put h k (.absd (KeptOk C S k)))
theorem kept_none {C : Nat → Addr} {S : Qs} {k : Addr} : KeptOk C S k [] := ⟨List.nodup_nil, fun p hp => by cases hp⟩
section
variable {P : Program} {w : World} {K : PySem.W.Frag} {mg : Str → Option Value} {base : Heap}
theorem ok_wquestion (T : Txt K mg) : DFn P w K mg base 6 T.a_wquestion T.d_wquestion ["spec"] (sp_wquestion T.Cm) := by
  refine dfn1 T.F_wquestion sc_wquestion rfl (fun cdv A outer s H E hr => ⟨_, (dss_one (ds_ret (de_frz (de_make T.M_Question (ok_Question_init T) (hr.mono (by decide)) (by rfl) T.mC_Question T.b_Question_init (da_cons (de_ix (de_var 0) de_int) (da_cons (de_ix (de_var 0) de_int) (da_cons (de_ix (de_var 0) de_int) da_nil))))))), fun p0 h Q q => ?_⟩)
  rw [show dstart ["spec"] [p0] = [some p0] from rfl]
  obtain ⟨S, rfl, ok, q⟩ := q
  unfold specD
  walk_at "dgo"
  intro o no
  refine ⟨o, S, rfl, rfl, rfl, rfl, ok, put_same, fun k nk => ⟨rfl, ?_⟩⟩
  have nko : k ≠ o := fun z => by rw [z, put_same] at nk; cases nk
  rw [put_ne nko] at nk
  rw [put_put, put_swap nko.symm, frz_ins put_same, del_put (by rw [put_ne nko.symm]; exact no)]
  refine Wk.by (h0 := put h k (.absd (KeptOk T.Cm S k))) ?_ (q k nk)
  have z := abs_put (h := put h k (.absd (KeptOk T.Cm S k))) (k := k) put_same (kept_none (C := T.Cm) (S := S) (k := k))
  rw [put_put] at z
  exact z
end
end My
namespace My
open PySem PySem.Spec PyProof.Rows L2 DL
def sp_wothers : DSp := sp2 fun a b h P => ∃ (r : Nat) (lot : List Nat), a = nD r ∧ b = lotD lot ∧ r ≤ 80 ∧ lot.length ≤ 80 ∧ P (lotD (othersOf r lot)) h
section
variable {P : Program} {w : World} {K : PySem.W.Frag} {mg : Str → Option Value} {base : Heap}
theorem ok_wothers (T : Txt K mg) : DFn P w K mg base 1 T.a_wothers T.d_wothers ["rows", "lot"] sp_wothers := by
  refine dfn2 T.F_wothers sc_wothers rfl (fun cdv A outer s H E hr => ⟨_, (dss_one (ds_ret (de_callTy call_dTupOf (by rfl) T.b_tuple (by decide +kernel) (da_cons (de_frz (de_lc (own := [("row", 2)]) rfl sc_wothers.nd (di_range1 (by rfl) T.b_range (da_cons (de_var 0) da_nil)) (blkOk_by (N := ["rows", "lot", "row"]) (sc := defScope s_wothers) (own := [("row", 2)]) (by decide +kernel)) (by decide) (fun _ _ _ _ _ => (dg_name (i := 2) sc_wothers.nd rfl (by first | exact Or.inl rfl | exact Or.inr rfl))) (fun _ _ _ _ _ => (dts_one (dt_cmp (op_dNotInA hr.units) (de_var 2) (de_var 1) (by rfl)))) (fun _ _ _ _ _ => (de_var 2)))) da_nil)))), fun p0 p1 h Q q => ?_⟩)
  rw [show dstart ["rows", "lot", "row"] [p0, p1] = [some p0, some p1, none] from rfl]
  obtain ⟨r, lot, rfl, rfl, r8, l8, q⟩ := q
  have line81 := line81
  unfold lotD
  walk_at "dgo"
  rw [Int.toNat_natCast]
  refine ⟨by omega, ?_⟩
  refine lcF (fun (i : Nat) => .int ((0 : Int) + i)) (List.range r) nD (fun x => decide (x ∉ lot)) rfl (fun _ _ => trivial) (fun x hx h1 s1 R R' hR hR' => ?_) (by rw [List.length_range]; omega) ?_
  · walk_at "dgo"
    rw [Int.zero_add, show decide (((x : Nat) : Int) ∈ lot.map Nat.cast) = decide (x ∈ lot) by
      rw [decide_eq_decide, List.mem_map]
      constructor
      · rintro ⟨y, hy, e⟩
        have : y = x := by omega
        exact this ▸ hy
      · exact fun hx => ⟨x, hx, rfl⟩]
    by_cases hl : x ∈ lot
    · rw [decide_eq_true hl]
      walk_at "dgo"
      exact hR' (by simpa using hl)
    · rw [decide_eq_false hl]
      walk_at "dgo"
      exact hR (by simpa using hl)
  · walk_at "dgo"
    exact Wk.of q
end
end My
namespace My
open PySem PySem.Spec PyProof.Rows L2 DL
theorem sub_lt : ∀ {zs : List Nat} {n : Nat}, List.Sublist zs (List.range n) → zs.Pairwise (· < ·) ∧ ∀ x ∈ zs, x < n := fun {zs n} h => ⟨List.pairwise_lt_range.sublist h, fun x hx => List.mem_range.mp (h.mem hx)⟩
theorem paired_same {zs : List Nat} {ds : List D} (h : Paired (fun (y : Nat) d => d = nD y) zs ds) : ds = zs.map nD := by
  induction h with
  | nil => rfl
  | cons e _ ih => rw [e, ih, List.map_cons]
def sp_wlot : DSp := sp2 fun a b h P => ∃ (p : Addr) (r : Nat), a = .ref p ∧ b = nD r ∧ 2 ≤ r ∧ r ≤ 4 ∧ PoolIn h p ∧ ∀ lot, LotOk r lot → P (lotD lot) h
section
variable {P : Program} {w : World} {K : PySem.W.Frag} {mg : Str → Option Value} {base : Heap}
theorem ok_wlot (T : Txt K mg) : DFn P w K mg base 2 T.a_wlot T.d_wlot ["pool", "rows"] sp_wlot := by
  refine dfn2 T.F_wlot sc_wlot rfl (fun cdv A outer s H E hr => ⟨_, (dss_cons (ds_set (i := 2) sc_wlot.nd rfl (by first | exact Or.inl rfl | exact Or.inr rfl) (de_callTy call_dTupOf (by rfl) T.b_tuple (by decide +kernel) (da_cons (de_frz (de_lc (own := [("row", 3)]) rfl sc_wlot.nd (di_range1 (by rfl) T.b_range (da_cons (de_var 1) da_nil)) (blkOk_by (N := ["pool", "rows", "lot", "row"]) (sc := defScope s_wlot) (own := [("row", 3)]) (by decide +kernel)) (by decide) (fun _ _ _ _ _ => (dg_name (i := 3) sc_wlot.nd rfl (by first | exact Or.inl rfl | exact Or.inr rfl))) (fun _ _ _ _ _ => (dts_one (dt_cmp (op_dEqA hr.units) (de_call (ok_wdraw T) (hr.mono (by decide)) (by rfl) T.m_wdraw T.F_wdraw.kp T.b_wdraw (da_cons (de_var 0) (da_cons de_int da_nil))) de_int (nomark _)))) (fun _ _ _ _ _ => (de_var 3)))) da_nil)))
  (dss_one (ds_ret (de_ifExp (dt_chain op_dLt op_dLt de_int (de_callB call_dLen (by rfl) T.b_len (by decide +kernel) (da_cons (de_var 2) da_nil)) (de_var 1)) (de_var 2) (de_tup (da_cons (de_call (ok_wdraw T) (hr.mono (by decide)) (by rfl) T.m_wdraw T.F_wdraw.kp T.b_wdraw (da_cons (de_var 0) (da_cons (de_var 1) da_nil))) da_nil)))))), fun p0 p1 h Q q => ?_⟩)
  rw [show dstart ["pool", "rows", "lot", "row"] [p0, p1] = [some p0, some p1, none, none] from rfl]
  obtain ⟨p, r, rfl, rfl, r2, r4, pool, q⟩ := q
  have line81 := line81
  walk_at "dgo"
  refine ⟨by omega, ?_⟩
  rw [Int.toNat_natCast]
  refine lcR (fun (i : Nat) => .int ((0 : Int) + i)) (List.range r) (fun y d => d = nD y) rfl (fun _ _ => trivial) (fun x hx h1 s1 R R' hR hR' => ?_) (by rw [List.length_range]; omega) (fun zs ds hs hp => ?_)
  · walk_at "dgo"
    refine ⟨p, 2, rfl, rfl, by decide, by decide, pool.sub s1, fun d hd => ?_⟩
    walk_at "dgo"
    cases decide ((d : Int) = 0)
    · walk_at "dgo"
      exact hR'
    · walk_at "dgo"
      exact hR _ (by rw [Int.zero_add])
  · rw [paired_same hp]
    obtain ⟨s1, s2⟩ := sub_lt hs
    have sl := hs.length_le
    rw [List.length_range] at sl
    walk_at "dgo"
    rw [List.length_map]
    by_cases h1 : 0 < zs.length
    · by_cases h2 : zs.length < r
      · rw [decide_eq_true (show (0 : Int) < (zs.length : Int) by omega), decide_eq_true (show (zs.length : Int) < (r : Int) by omega)]
        walk_at "dgo"
        exact Wk.of (q zs ⟨s2, s1, h1, h2⟩)
      · rw [decide_eq_true (show (0 : Int) < (zs.length : Int) by omega), decide_eq_false (show ¬ (zs.length : Int) < (r : Int) by omega)]
        walk_at "dgo"
        refine ⟨p, r, rfl, rfl, by omega, by omega, pool, fun d hd => ?_⟩
        exact Wk.of (q [d] ⟨fun x hx => by rw [List.mem_singleton.mp hx]; exact hd, List.pairwise_singleton _ _, Nat.le_refl _, by show 1 < r; omega⟩)
    · rw [decide_eq_false (show ¬ (0 : Int) < (zs.length : Int) by omega)]
      walk_at "dgo"
      refine ⟨p, r, rfl, rfl, by omega, by omega, pool, fun d hd => ?_⟩
      exact Wk.of (q [d] ⟨fun x hx => by rw [List.mem_singleton.mp hx]; exact hd, List.pairwise_singleton _ _, Nat.le_refl _, by show 1 < r; omega⟩)
end
end My
namespace My
open PySem PySem.Spec PyProof.Rows L2 DL
def sp_wplaced : DSp := sp4 fun a b c d h P => ∃ (r : Nat) (lot x y : List Nat), a = nD r ∧ b = lotD lot ∧ c = encC x ∧ d = encC y ∧ r ≤ 4 ∧ LotOk r lot ∧ lot.length = x.length ∧ (othersOf r lot).length = y.length ∧ P (encC (placeC r lot x y)) h
section
variable {P : Program} {w : World} {K : PySem.W.Frag} {mg : Str → Option Value} {base : Heap}
theorem ok_wplaced (T : Txt K mg) : DFn P w K mg base 2 T.a_wplaced T.d_wplaced ["rows", "lot", "ahead", "other"] sp_wplaced := by
  refine dfn4 T.F_wplaced sc_wplaced rfl (fun cdv A outer s H E hr => ⟨_, (dss_cons (ds_set (i := 4) sc_wplaced.nd rfl (by first | exact Or.inl rfl | exact Or.inr rfl) (de_frz (de_callTy (call_dDictOf hr.units rfl) (by rfl) T.b_dict (by decide +kernel) (da_cons (de_pur (de_op op_dAdd (de_listZip rfl (by rfl) T.b_list (by rfl) T.b_zip (da_cons (de_var 1) (da_cons (de_var 2) da_nil))) (de_listZip rfl (by rfl) T.b_list (by rfl) T.b_zip (da_cons (de_call (ok_wothers T) (hr.mono (by decide)) (by rfl) T.m_wothers T.F_wothers.kp T.b_wothers (da_cons (de_var 0) (da_cons (de_var 1) da_nil))) (da_cons (de_var 3) da_nil))))) da_nil))))
  (dss_one (ds_ret (de_callTy call_dTupOf (by rfl) T.b_tuple (by decide +kernel) (da_cons (de_frz (de_lc (own := [("row", 5)]) rfl sc_wplaced.nd (di_range1 (by rfl) T.b_range (da_cons (de_var 0) da_nil)) (blkOk_by (N := ["rows", "lot", "ahead", "other", "signs", "row"]) (sc := defScope s_wplaced) (own := [("row", 5)]) (by decide +kernel)) (by decide) (fun _ _ _ _ _ => (dg_name (i := 5) sc_wplaced.nd rfl (by first | exact Or.inl rfl | exact Or.inr rfl))) (fun _ _ _ _ _ => dts_nil) (fun _ _ _ _ _ => (de_ixD hr.units (de_var 4) (de_var 5))))) da_nil))))), fun p0 p1 p2 p3 h Q q => ?_⟩)
  rw [show dstart ["rows", "lot", "ahead", "other", "signs", "row"] [p0, p1, p2, p3] = [some p0, some p1, some p2, some p3, none, none] from rfl]
  obtain ⟨r, lot, c, d, rfl, rfl, rfl, rfl, r4, lo, hcl, hdl, q⟩ := q
  have line81 := line81
  have hol := others_len lo
  have hlt : lotD lot = .tup (lot.map nD) := rfl
  unfold encC at q ⊢
  rw [hlt]
  walk_at "dgo"
  refine ⟨?_, fun q1 nq1 => ?_⟩
  · rw [pairs_length, List.length_map, List.length_map]; omega
  refine ⟨r, lot, rfl, rfl, by omega, by omega, ?_⟩
  unfold lotD
  walk_at "dgo"
  refine ⟨?_, fun q2 nq2 => ?_⟩
  · rw [pairs_length, List.length_map, List.length_map]; omega
  have nq12 : q1 ≠ q2 := ne_none put_same nq2
  refine lstAt_of (by rw [put_ne nq12]; exact put_same) (lstAt_of put_same ⟨?_, frsh ⟨(Sub.new nq1).trans (Sub.new nq2), ?_⟩⟩)
  · rw [pairs_length, pairs_length, List.length_map, List.length_map, List.length_map, List.length_map]; omega
  walk_at "dgo"
  refine ⟨(lot.zip c).map (fun p => (nD p.1, sgD p.2)) ++ ((othersOf r lot).zip d).map fun p => (nD p.1, sgD p.2), ?_, ?_, ?_, frshD ?_⟩
  · rw [pairs_nats, pairs_nats, List.map_append, List.map_map, List.map_map]; rfl
  · intro x hx
    rcases List.mem_append.mp hx with hx | hx
    · obtain ⟨y, _, rfl⟩ := List.mem_map.mp hx; exact key_nat _
    · obtain ⟨y, _, rfl⟩ := List.mem_map.mp hx; exact key_nat _
  · rw [List.length_append, List.length_map, List.length_map, List.length_zip, List.length_zip]; omega
  rw [putAll_nodup _ _ (by rw [List.nil_append]; exact signs_nodup (lo.asc.imp fun h => Nat.ne_of_lt h)), List.nil_append]
  walk_at "dgo"
  refine ⟨by omega, ?_⟩
  rw [Int.toNat_natCast]
  refine lcA (fun (i : Nat) => .int ((0 : Int) + i)) (List.range r) (fun x => sgD (sgnAt r lot c d x)) rfl (fun _ _ => trivial) (fun x hx h4 s4 R hR => ?_) (by rw [List.length_range]; omega) ?_
  · walk_at "dgo"
    rw [zip_maps, Int.zero_add]
    refine ⟨key_nat x, ?_⟩
    rw [show D.int ((x : Nat) : Int) = nD x from rfl, signs_look hcl hdl (List.mem_range.mp hx)]
    exact hR
  walk_at "dgo"
  unfold placeC at q
  rw [List.map_map] at q
  exact Wk.of q
end
end My
namespace My
open PySem PySem.Spec PyProof.Rows L2 DL
def goesC (ended c : List Nat) : Bool := ended.all fun x => decide (c.getD x 45 = 45)
def sp_wgoes : DSp := sp2 fun a b h P => ∃ (e c : List Nat), a = lotD e ∧ b = encC c ∧ e.length ≤ 80 ∧ (∀ x ∈ e, x < c.length) ∧ P (.bl (goesC e c)) h
section
variable {P : Program} {w : World} {K : PySem.W.Frag} {mg : Str → Option Value} {base : Heap}
theorem ok_wgoes (T : Txt K mg) : DFn P w K mg base 1 T.a_wgoes T.d_wgoes ["ended", "column"] sp_wgoes := by
  refine dfn2 T.F_wgoes sc_wgoes rfl (fun cdv A outer s H E hr => ⟨_, (dss_one (ds_ret (de_callB (call_dAll rfl) (by rfl) T.b_all (by decide +kernel) (da_cons (de_frz (de_lc (own := [("row", 2)]) rfl sc_wgoes.nd (di_tup (de_var 0)) (blkOk_by (N := ["ended", "column", "row"]) (sc := defScope s_wgoes) (own := [("row", 2)]) (by decide +kernel)) (by decide) (fun _ _ _ _ _ => (dg_name (i := 2) sc_wgoes.nd rfl (by first | exact Or.inl rfl | exact Or.inr rfl))) (fun _ _ _ _ _ => dts_nil) (fun _ _ _ _ _ => (de_cmp (op_dEqA hr.units) (de_ix (de_var 1) (de_var 2)) de_str (nomark _))))) da_nil)))), fun p0 p1 h Q q => ?_⟩)
  rw [show dstart ["ended", "column", "row"] [p0, p1] = [some p0, some p1, none] from rfl]
  obtain ⟨e, c, rfl, rfl, e8, he, q⟩ := q
  have line81 := line81
  unfold lotD encC
  walk_at "dgo"
  refine lcA nD e (fun x => .bl (decide (c.getD x 45 = 45))) rfl (fun _ _ => trivial) (fun x hx h1 s1 R hR => ?_) (by omega) ?_
  · have hxl := he x hx
    walk_at "dgo"
    refine oAt_of (map_at sgD (getD_some 45 hxl)) ?_
    unfold sgD
    walk_at "dgo"
    rw [sgn_dec _ 45 "-" rfl]
    exact hR
  walk_at "dgo"
  rw [show ((e.map fun x => decide (c.getD x 45 = 45)).all id) = goesC e c by unfold goesC; rw [List.all_map]; rfl]
  exact Wk.of q
end
end My
namespace My
open PySem PySem.Spec PyProof.Rows L2 DL
theorem tuple_mul_one (l : Addr) (items : Array Value) (n : Nat) (dd : Option Addr) (sl : Array (Option Value)) (u : Tok) :
    Meets (Builtin.«tuple.__mul__» ⟨[.ref l, .int 1 u], []⟩) (fun _ R s => s.heap.get? l = some { cls := .type "tuple", dict := dd, data := .seq items n, slots := sl } ∧ R (.ok (.ret (Value.ref l))) s) :=
  .of_wp fun prog w A R s h => by
    obtain ⟨hp, g, d, tk, os⟩ := s
    obtain ⟨hl, h⟩ := h
    have f1 := AutoSeq1.idx_int
    wp_walk using wpAny_loadPart' hl
    repeat (first
      | (refine wpAny_ite_false (by decide) ?_; wp_walk using wpAny_loadPart' hl)
      | (refine wpAny_ite_true (by rw [show ((1 : Int) == 1) = true from rfl, Bool.or_true]) ?_; wp_walk using wpAny_loadPart' hl))
    exact ⟨_, rfl, h⟩
theorem op_repT1 {X : Cx} : OpR X (binaryOp .Mult) (fun x y H Q => ∃ l xs, x = .ref l ∧ y = .int 1 ∧ SqT X.K H l xs ∧ Q (.ref l) H) := by
  intro pins s σ H x y v u Q I rx ry h
  obtain ⟨l, xs, rfl, rfl, hT, q⟩ := h
  cases rx
  obtain ⟨t, rfl⟩ := ry
  obtain ⟨its, r, ⟨⟨cls, dd, data, sl⟩, ho, hc, n, hd⟩, hs⟩ := I.tuple hT
  simp only at hc hd
  subst hc hd
  refine wpAny_binaryOp_repeat_ref (T := "tuple") (U := "int") (by decide) ⟨_, ho, rfl⟩ (fun s' => typeIs_int s' 1 t) noFill_tuple_mul F.fills_int_mul F.slot_int_rmul repeat_tuple F.slot_int_index.lookup
    (call_meets F.slot_int_rmul (typeIs_int s 1 t) F.entry_int_rmul (F.args_int_rmul_2 _ _) (int_rmul_tuple 1 t l its.toArray n dd sl)
      ⟨ho, rfl, ⟨_, ho, rfl⟩, call_meets F.slot_tuple_mul ⟨_, ho, rfl⟩ F.entry_tuple_mul (F.args_tuple_mul_2 _ _) (tuple_mul_one l its.toArray n dd sl t) ⟨ho, ?_⟩⟩)
  exact ⟨.ref l, H, I, rfl, q⟩
/-- a tuple some times, once and more -/
def dMul1 : DR2
  | .tup xs, .int k, h, P => (xs ≠ [] ∧ 1 ≤ k ∧ k ≤ 1000 ∧ xs.length ≤ 1000) ∧ P (.tup (List.replicate k.toNat xs).flatten) h
  | _, _, _, _ => False
theorem op_dMul1 {X : Cx} : DOp X (binaryOp .Mult) dMul1 := by
  intro pins s σ H x y v u Q I rx ry q
  obtain ⟨dx, dy, h, P, r1, r2, rh, q, f⟩ := q
  unfold dMul1 at q
  split at q
  · rename_i xs k
    by_cases k1 : k = 1
    · subst k1
      obtain ⟨a, vs, rfl, s1, t1⟩ := r1
      cases r2
      obtain ⟨⟨c1, c2, c3, c4⟩, q⟩ := q
      rw [show (List.replicate (1 : Int).toNat xs).flatten = xs by simp] at q
      exact op_repT1 pins s σ H _ _ v u Q I rx ry ⟨a, vs, rfl, rfl, s1, f _ _ _ _ q (Keeps.refl _) rh ⟨a, vs, rfl, s1, t1⟩⟩
    · exact op_dMul pins s σ H x y v u Q I rx ry ⟨.tup xs, .int k, h, P, r1, r2, rh, ⟨⟨q.1.1, by have := q.1.2.1; omega, q.1.2.2⟩, q.2⟩, f⟩
  · exact q.elim
/-- rows that have ended, by their bits -/
def endOf (g m : Nat) : List Nat := (List.range m).filter fun i => g.testBit i
def endL (c : List Nat) : List Nat := (List.range c.length).filter fun i => decide (c.getD i 45 = 45)
abbrev FK := Nat × Nat × List Nat
/-- how the law goes on from a place with a column of the others -/
def lawSuc (S : Qs) (lot : List Nat) (v1 v2 : List Str) (pl : Nat) (k : FK) (c : List Nat) : FK := (lead S k.1 (placeC S.r lot (colAt v1 pl) c), lead S k.2.1 (placeC S.r lot (colAt v2 pl) c), endL c)
/-- what the law comes to at a place -/
inductive LR (S : Qs) (lot : List Nat) (v1 v2 : List Str) : Nat → FK → Prop
  | start : LR S lot v1 v2 0 (0, 0, [])
  | step {pl : Nat} {k : FK} {c : List Nat} : LR S lot v1 v2 pl k → c ∈ othC S lot → goesC k.2.2 c = true → LR S lot v1 v2 (pl + 1) (lawSuc S lot v1 v2 pl k c)
/-- some columns of the others part the words -/
def Wins (S : Qs) (lot : List Nat) (v1 v2 : List Str) : Prop := ∃ pl k, max (maxLen v1) (maxLen v2) ≤ pl ∧ LR S lot v1 v2 pl k ∧ flg S k.1 ≠ flg S k.2.1
theorem getD_mapD {α β : Type} (f : α → β) (d : α) (xs : List α) (i : Nat) : (xs.map f).getD i (f d) = f (xs.getD i d) := by
  rw [List.getD_eq_getElem?_getD, List.getD_eq_getElem?_getD, List.getElem?_map]
  cases xs[i]? <;> rfl
theorem oc_at {S : Qs} {lot : List Nat} {j : Nat} (hj : j < (othC S lot).length) : (othC S lot).getD j [] ∈ othC S lot := by
  rw [List.getD_eq_getElem?_getD, List.getElem?_eq_getElem hj]
  exact List.getElem_mem hj
theorem oc_len {S : Qs} {lot : List Nat} {c : List Nat} (h : c ∈ othC S lot) : c.length = (othersOf S.r lot).length := (cols_mem.mp h).1
theorem gn2_eq {S : Qs} {lot : List Nat} {j : Nat} (hj : j < (othC S lot).length) : gn2 S lot j = goneN ((othC S lot).getD j []) := by
  unfold gn2 othG
  rw [List.getD_eq_getElem?_getD, List.getElem?_map, List.getD_eq_getElem?_getD, List.getElem?_eq_getElem hj]
  rfl
theorem getD_some45 {c : List Nat} {i : Nat} (h : i < c.length) : (c[i]? = some 45) ↔ c.getD i 45 = 45 := by
  rw [List.getD_eq_getElem?_getD, List.getElem?_eq_getElem h]
  simp
theorem endL_eq (c : List Nat) : endL c = endOf (goneN c) c.length := by
  unfold endL endOf
  refine List.filter_congr fun i hi => ?_
  rw [goneN_bit _ c rfl, decide_eq_decide]
  exact (getD_some45 (List.mem_range.mp hi)).symm
theorem endOf_zero (m : Nat) : endOf 0 m = [] := by
  unfold endOf
  rw [List.filter_eq_nil_iff]
  intro i _
  simp
theorem and_sub {e g : Nat} : e &&& g = e ↔ ∀ i, e.testBit i = true → g.testBit i = true := by
  constructor
  · intro h i hi
    rw [← h, Nat.testBit_and] at hi
    exact (Bool.and_eq_true _ _ ▸ hi).2
  · intro h
    refine Nat.eq_of_testBit_eq fun i => ?_
    rw [Nat.testBit_and]
    cases q : e.testBit i with
    | false => rfl
    | true => rw [h i q]; rfl
def fk (S : Qs) (lot : List Nat) (t : Nat × Nat × Nat) : FK := (t.1, t.2.1, endOf t.2.2 (othersOf S.r lot).length)
theorem bits_lt {m e i : Nat} (h : e ≤ 2 ^ m - 1) (hi : m ≤ i) : e.testBit i = false := by
  have h1 : 2 ^ m ≤ 2 ^ i := Nat.pow_le_pow_right (by decide) hi
  have h2 : 0 < 2 ^ m := Nat.pow_pos (by decide)
  exact Nat.testBit_lt_two_pow (by omega)
theorem opn_goes {S : Qs} {lot : List Nat} {e j : Nat} (he : e ≤ (othG S lot).headD 0) (hj : j < (othC S lot).length) : j ∈ opn2 S lot e ↔ goesC (endOf e (othersOf S.r lot).length) ((othC S lot).getD j []) = true := by
  have hc := oc_len (oc_at hj)
  have e2 : opn2 S lot e = (List.range (othG S lot).length).filter fun i => decide (e &&& (othG S lot).getD i 0 = e) := by
    unfold opn2
    rw [List.getD_eq_getElem?_getD, opens_at he]
    rfl
  rw [e2, List.mem_filter, List.mem_range, othG_len, show (othG S lot).getD j 0 = gn2 S lot j from rfl, gn2_eq hj, decide_eq_true_iff, and_sub]
  unfold goesC
  rw [List.all_eq_true]
  rw [othG_head] at he
  constructor
  · rintro ⟨_, h⟩ x hx
    obtain ⟨h1, h2⟩ := List.mem_filter.mp hx
    have z := h x h2
    rw [goneN_bit _ _ rfl] at z
    exact decide_eq_true ((getD_some45 (by rw [hc]; exact List.mem_range.mp h1)).mp (of_decide_eq_true z))
  · refine fun h => ⟨hj, fun i hi => ?_⟩
    have him : i < (othersOf S.r lot).length := by
      rcases Nat.lt_or_ge i (othersOf S.r lot).length with q | q
      · exact q
      · rw [bits_lt he q] at hi; cases hi
    have z := of_decide_eq_true (h i (List.mem_filter.mpr ⟨List.mem_range.mpr him, hi⟩))
    rw [goneN_bit _ _ rfl]
    exact decide_eq_true ((getD_some45 (by rw [hc]; exact him)).mpr z)
theorem colAt_gone {v : List Str} {p : Nat} (h : maxLen v ≤ p) : colAt v p = List.replicate v.length 45 := by
  unfold colAt
  rw [List.eq_replicate_iff]
  refine ⟨List.length_map _, fun x hx => ?_⟩
  obtain ⟨z, hz, rfl⟩ := List.mem_map.mp hx
  exact col_gone z p (by have := le_maxLen hz; omega)
theorem num_col {S : Qs} {lot : List Nat} {v : List Str} (ok : S.Ok) (w : Wds lot.length S.l v) (p : Nat) : (lotC S lot).getD ((numsOf S.l v).getD p 0) [] = colAt v p := by
  by_cases hp : p < maxLen v
  · have e : (numsOf S.l v).getD p 0 = val (S.l + 1) (colAt v p) := by
      unfold numsOf
      rw [List.getD_eq_getElem?_getD, List.getElem?_map, List.getElem?_range hp]
      rfl
    rw [e, List.getD_eq_getElem?_getD]
    unfold lotC
    rw [cols_at ok.l2 (show colAt v p ∈ cols lot.length (sg S.l) by rw [← w.len]; exact colAt_mem w.ok p)]
    rfl
  · have e : (numsOf S.l v).getD p 0 = 0 := by
      unfold numsOf
      rw [List.getD_eq_getElem?_getD, List.getElem?_map, List.getElem?_eq_none (by rw [List.length_range]; omega)]
      rfl
    rw [e, List.getD_eq_getElem?_getD]
    unfold lotC
    rw [cols_head, colAt_gone (Nat.le_of_not_lt hp), w.len]
    rfl
theorem colAt_cap {v : List Str} {W p : Nat} (h : maxLen v ≤ W) : colAt v (min W p) = colAt v p := by
  by_cases hp : p ≤ W
  · rw [Nat.min_eq_right hp]
  · rw [Nat.min_eq_left (by omega), colAt_gone h, colAt_gone (by omega)]
theorem nums_maxLen (l : Nat) (v : List Str) : (numsOf l v).length = maxLen v := by unfold numsOf; rw [List.length_map, List.length_range]
theorem whl_eq (l : Nat) (v1 v2 : List Str) : whl (numsOf l v1) (numsOf l v2) = max (maxLen v1) (maxLen v2) := by unfold whl; rw [nums_maxLen, nums_maxLen]
section
variable {S : Qs} {lot : List Nat} {v1 v2 : List Str}
theorem num_lt (ok : S.Ok) (w : Wds lot.length S.l v1) (p : Nat) : (numsOf S.l v1).getD p 0 < (lotC S lot).length := by
  rw [List.getD_eq_getElem?_getD]
  cases e : (numsOf S.l v1)[p]? with
  | none => exact lotC_ne _ _
  | some x => exact nums_lt ok w x (List.mem_of_getElem? e)
theorem suc_one (ok : S.Ok) (w : Wds lot.length S.l v1) {a W pl j : Nat} (ha : a < S.tbl.length) (hW : maxLen v1 ≤ W) (hj : j < (othC S lot).length) :
    ld S lot a ((numsOf S.l v1).getD (min W pl) 0) j = lead S a (placeC S.r lot (colAt v1 pl) ((othC S lot).getD j [])) := by
  rw [(ld_lt ok ha (num_lt ok w _) hj).1, num_col ok w, colAt_cap hW]
theorem suc_fk (ok : S.Ok) (h1 : Wds lot.length S.l v1) (h2 : Wds lot.length S.l v2) {n : Nd} (h : NdOk S lot (numsOf S.l v1) (numsOf S.l v2) n) {j : Nat} (hj : j < (othC S lot).length) {pl : Nat} (hp : n.1 = min (whl (numsOf S.l v1) (numsOf S.l v2)) pl) :
    fk S lot (sucN S lot (numsOf S.l v1) (numsOf S.l v2) n j).2 = lawSuc S lot v1 v2 pl (fk S lot n.2) ((othC S lot).getD j []) := by
  have hw := whl_eq S.l v1 v2
  have e1 := suc_one (pl := pl) ok h1 h.tr.a (show maxLen v1 ≤ whl (numsOf S.l v1) (numsOf S.l v2) by omega) hj
  have e2 := suc_one (pl := pl) ok h2 h.tr.b (show maxLen v2 ≤ whl (numsOf S.l v1) (numsOf S.l v2) by omega) hj
  rw [← hp] at e1 e2
  unfold fk sucN lawSuc
  dsimp only
  rw [e1, e2, endL_eq, gn2_eq hj, oc_len (oc_at hj)]
theorem rch_lr (ok : S.Ok) (h1 : Wds lot.length S.l v1) (h2 : Wds lot.length S.l v2) {l : List Nat} {n : Nd} (r : Rch S lot (numsOf S.l v1) (numsOf S.l v2) l n) :
    NdOk S lot (numsOf S.l v1) (numsOf S.l v2) n ∧ n.1 = min (whl (numsOf S.l v1) (numsOf S.l v2)) l.length ∧ LR S lot v1 v2 l.length (fk S lot n.2) := by
  induction r with
  | start =>
    refine ⟨⟨Nat.zero_le _, ⟨ok.t1, ok.t1, Nat.zero_le _⟩⟩, (Nat.min_zero _).symm, ?_⟩
    have e : fk S lot (startN : Nd).2 = (0, 0, []) := by unfold fk startN; rw [endOf_zero]
    rw [e]
    exact .start
  | @step l n c r hc ih =>
    obtain ⟨i1, i2, i3⟩ := ih
    have hcl : c < (othC S lot).length := by rw [← othG_len]; exact opens_lt hc
    refine ⟨suc_ok ok i1 (nums_lt ok h1) (nums_lt ok h2) hc, ?_, ?_⟩
    · rw [List.length_append, List.length_singleton]
      show min _ (n.1 + 1) = _
      omega
    · rw [suc_fk ok h1 h2 i1 hcl i2, List.length_append, List.length_singleton]
      exact .step i3 (oc_at hcl) ((opn_goes i1.tr.e hcl).mp hc)
theorem lr_rch (ok : S.Ok) (h1 : Wds lot.length S.l v1) (h2 : Wds lot.length S.l v2) {p : Nat} {k : FK} (r : LR S lot v1 v2 p k) :
    ∃ l n, Rch S lot (numsOf S.l v1) (numsOf S.l v2) l n ∧ l.length = p ∧ k = fk S lot n.2 := by
  induction r with
  | start => exact ⟨[], startN, .start, rfl, by unfold fk startN; rw [endOf_zero]⟩
  | @step pl k c r hc hg ih =>
    obtain ⟨l, n, i1, rfl, rfl⟩ := ih
    obtain ⟨q1, q2, q3⟩ := rch_lr ok h1 h2 i1
    obtain ⟨j, hj, rfl⟩ := List.mem_iff_getElem.mp hc
    have ej : (othC S lot).getD j [] = (othC S lot)[j] := by rw [List.getD_eq_getElem?_getD, List.getElem?_eq_getElem hj]; rfl
    rw [← ej] at hg ⊢
    exact ⟨l ++ [j], _, .step i1 ((opn_goes q1.tr.e hj).mpr hg), by rw [List.length_append, List.length_singleton], (suc_fk ok h1 h2 q1 hj q2).symm⟩
theorem wins_iff (ok : S.Ok) (h1 : Wds lot.length S.l v1) (h2 : Wds lot.length S.l v2) : Wins S lot v1 v2 ↔ ∃ l n, Rch S lot (numsOf S.l v1) (numsOf S.l v2) l n ∧ isGoal S (numsOf S.l v1) (numsOf S.l v2) n := by
  have hw := whl_eq S.l v1 v2
  constructor
  · rintro ⟨p, k, hp, r, hf⟩
    obtain ⟨l, n, i1, rfl, rfl⟩ := lr_rch ok h1 h2 r
    obtain ⟨q1, q2, q3⟩ := rch_lr ok h1 h2 i1
    exact ⟨l, n, i1, by omega, hf⟩
  · rintro ⟨l, n, r, g1, g2⟩
    obtain ⟨q1, q2, q3⟩ := rch_lr ok h1 h2 r
    exact ⟨l.length, _, by omega, q3, g2⟩
theorem parted_some (ok : S.Ok) (h1 : Wds lot.length S.l v1) (h2 : Wds lot.length S.l v2) : (partedR S lot (numsOf S.l v1) (numsOf S.l v2) = none ∧ ¬ Wins S lot v1 v2) ∨ ∃ l n, partedR S lot (numsOf S.l v1) (numsOf S.l v2) = some l ∧ Rch S lot (numsOf S.l v1) (numsOf S.l v2) l n ∧ isGoal S (numsOf S.l v1) (numsOf S.l v2) n ∧ Wins S lot v1 v2 := by
  rcases bfs_ok ok (nums_lt ok h1) (nums_lt ok h2) _ _ _ (bok_start ok) (Nat.le_refl _) with ⟨e, no⟩ | ⟨l, n, e, r, g⟩
  · refine .inl ⟨e, fun w => ?_⟩
    obtain ⟨l, n, r, g⟩ := (wins_iff ok h1 h2).mp w
    exact no l n r g
  · exact .inr ⟨l, n, e, r, g, (wins_iff ok h1 h2).mpr ⟨l, n, r, g⟩⟩
end
theorem lr_swap {S : Qs} {lot : List Nat} {v1 v2 : List Str} {p : Nat} {k : FK} (r : LR S lot v1 v2 p k) : LR S lot v2 v1 p (k.2.1, k.1, k.2.2) := by
  induction r with
  | start => exact .start
  | @step pl k c r hc hg ih => exact .step ih hc hg
theorem wins_swap {S : Qs} {lot : List Nat} {v1 v2 : List Str} (h : Wins S lot v1 v2) : Wins S lot v2 v1 := by
  obtain ⟨p, k, hp, r, hf⟩ := h
  exact ⟨p, _, by omega, lr_swap r, fun z => hf z.symm⟩
theorem lr_same {S : Qs} {lot : List Nat} {v : List Str} {p : Nat} {k : FK} (r : LR S lot v v p k) : k.1 = k.2.1 := by
  induction r with
  | start => rfl
  | @step pl k c r hc hg ih => unfold lawSuc; rw [ih]
theorem wins_same {S : Qs} {lot : List Nat} {v : List Str} : ¬ Wins S lot v v := fun ⟨p, k, hp, r, hf⟩ => hf (by rw [lr_same r])
def fkD (k : FK) : D := .tup [nD k.1, nD k.2.1, .tup (k.2.2.map nD)]
theorem mapD_inj : ∀ {a b : List Nat}, a.map nD = b.map nD → a = b
  | [], [], _ => rfl
  | [], _ :: _, h => by cases h
  | _ :: _, [], h => by cases h
  | x :: a, y :: b, h => by
    rw [List.map_cons, List.map_cons] at h
    injection h with h1 h2
    rw [nD_inj h1, mapD_inj h2]
theorem fkD_inj {a b : FK} (h : fkD a = fkD b) : a = b := by
  obtain ⟨a1, a2, a3⟩ := a
  obtain ⟨b1, b2, b3⟩ := b
  unfold fkD at h
  injection h with h
  injection h with h1 h
  injection h with h2 h
  injection h with h3 _
  injection h3 with h3
  have e1 : a1 = b1 := nD_inj h1
  have e2 : a2 = b2 := nD_inj h2
  have e3 : a3 = b3 := mapD_inj h3
  rw [e1, e2, e3]
theorem keysOf_nats : ∀ xs : List Nat, keysOf (xs.map nD) = some (xs.map fun x => NestedKey.num ((x : Nat) : Int))
  | [] => rfl
  | x :: r => by rw [List.map_cons, List.map_cons, keysOf, keysOf_nats r]; rfl
theorem depth_nats : ∀ xs : List Nat, NestedKey.depthAll (xs.map fun x => NestedKey.num ((x : Nat) : Int)) = 0
  | [] => rfl
  | x :: r => by rw [List.map_cons, NestedKey.depthAll, depth_nats r]; rfl
theorem key_fk (k : FK) : isKey (fkD k) := by
  refine ⟨.tup [.num k.1, .num k.2.1, .tup (k.2.2.map fun x => .num ((x : Nat) : Int))], ?_, ?_⟩
  · show DL.keyOf (.tup [nD k.1, nD k.2.1, .tup (k.2.2.map nD)]) = _
    rw [DL.keyOf, keysOf, keysOf, keysOf, DL.keyOf, DL.keyOf, DL.keyOf, keysOf_nats]
    rfl
  · rw [NestedKey.depth, NestedKey.depthAll, NestedKey.depthAll, NestedKey.depthAll, NestedKey.depthAll, NestedKey.depth, NestedKey.depth, NestedKey.depth, depth_nats]
    decide
def hkv (W : List (FK × List Str)) : List (D × D) := W.map fun e => (fkD e.1, .tup (e.2.map D.str))
def hD (W : List (FK × List Str)) : D := .rod ((hkv W).map (·.1)) ((hkv W).map (·.2))
def skv (Z : List FK) : List (D × D) := Z.map fun k => (fkD k, D.bl true)
theorem hkv_keys (W : List (FK × List Str)) : (hkv W).map (·.1) = W.map fun e => fkD e.1 := by unfold hkv; rw [List.map_map]; rfl
theorem hkv_in {W : List (FK × List Str)} {k : FK} : (dlook (hkv W) (fkD k)).isSome = true ↔ k ∈ W.map (·.1) := by
  rw [dlook_mem, hkv_keys]
  constructor
  · intro h
    obtain ⟨e, he, q⟩ := List.mem_map.mp h
    exact List.mem_map.mpr ⟨e, he, fkD_inj q⟩
  · intro h
    obtain ⟨e, he, rfl⟩ := List.mem_map.mp h
    exact List.mem_map.mpr ⟨e, he, rfl⟩
theorem skv_in {Z : List FK} {k : FK} : (dlook (skv Z) (fkD k)).isSome = true ↔ k ∈ Z := by
  unfold skv
  rw [dlook_mem, List.map_map]
  constructor
  · intro h
    obtain ⟨e, he, q⟩ := List.mem_map.mp h
    exact fkD_inj q ▸ he
  · intro h
    exact List.mem_map.mpr ⟨_, h, rfl⟩
theorem hkv_look {W : List (FK × List Str)} (nd : (W.map (·.1)).Nodup) {e : FK × List Str} (he : e ∈ W) : dlook (hkv W) (fkD e.1) = some (.tup (e.2.map D.str)) := by
  induction W with
  | nil => cases he
  | cons x r ih =>
    rw [List.map_cons, List.nodup_cons] at nd
    unfold hkv
    rw [List.map_cons, dlook_cons]
    by_cases z : x.1 = e.1
    · rw [if_pos (show fkD x.1 = fkD e.1 by rw [z])]
      rcases List.mem_cons.mp he with rfl | h
      · rfl
      · exact absurd (List.mem_map.mpr ⟨e, h, z.symm⟩) nd.1
    · rw [if_neg (show ¬ fkD x.1 = fkD e.1 from fun q => z (fkD_inj q))]
      rcases List.mem_cons.mp he with rfl | h
      · exact absurd rfl z
      · exact ih nd.2 h
section
variable (S : Qs) (lot : List Nat) (v1 v2 : List Str)
/-- what stands at a place -/
structure HOk (pl : Nat) (W : List (FK × List Str)) : Prop where
  nd : (W.map (·.1)).Nodup
  lr : ∀ k ∈ W.map (·.1), LR S lot v1 v2 pl k
  ws : ∀ e ∈ W, e.2.length = (othersOf S.r lot).length ∧ ∀ z ∈ e.2, z.length ≤ pl
/-- dealt with -/
def Done (M : Nat) (Z : List FK) (k : FK) : Prop := flg S k.1 = flg S k.2.1 ∧ ∀ c ∈ othC S lot, goesC k.2.2 c = true → lawSuc S lot v1 v2 M k c ∈ Z
structure FOk (M pl : Nat) (W : List (FK × List Str)) (Z : List FK) : Prop where
  h : HOk S lot v1 v2 pl W
  nd : Z.Nodup
  zlr : ∀ k ∈ Z, ∃ q, LR S lot v1 v2 q k
  early : pl ≤ M → Z = [] ∧ ∀ k, LR S lot v1 v2 pl k → k ∈ W.map (·.1)
  late : M < pl → (∀ k ∈ W.map (·.1), k ∈ Z) ∧ pl ≤ Z.length + M ∧ (∀ k, LR S lot v1 v2 M k → Done S lot v1 v2 M Z k) ∧ ∀ k ∈ Z, k ∉ W.map (·.1) → Done S lot v1 v2 M Z k
end
section
variable {S : Qs} {lot : List Nat} {v1 v2 : List Str}
theorem lr_le {p q : Nat} (h : p ≤ q) {k : FK} (r : LR S lot v1 v2 q k) : ∃ k', LR S lot v1 v2 p k' := by
  induction r with
  | start => exact ⟨_, by rw [Nat.le_zero.mp h]; exact .start⟩
  | @step pl k c r hc hg ih =>
    rcases Nat.lt_or_ge p (pl + 1) with z | z
    · exact ih (by omega)
    · have : p = pl + 1 := by omega
      subst this
      exact ⟨_, .step r hc hg⟩
theorem suc_cap {M : Nat} (hM : max (maxLen v1) (maxLen v2) ≤ M) {p : Nat} (hp : M ≤ p) (k : FK) (c : List Nat) : lawSuc S lot v1 v2 p k c = lawSuc S lot v1 v2 M k c := by
  unfold lawSuc
  rw [colAt_gone (show maxLen v1 ≤ p by omega), colAt_gone (show maxLen v2 ≤ p by omega), colAt_gone (show maxLen v1 ≤ M by omega), colAt_gone (show maxLen v2 ≤ M by omega)]
theorem all_done {M : Nat} (hM : max (maxLen v1) (maxLen v2) ≤ M) {Z : List FK} (h1 : ∀ k, LR S lot v1 v2 M k → Done S lot v1 v2 M Z k) (h2 : ∀ k ∈ Z, Done S lot v1 v2 M Z k) : ∀ q k, LR S lot v1 v2 q k → M ≤ q → Done S lot v1 v2 M Z k := by
  intro q k r
  induction r with
  | start => intro h; exact h1 _ (by rw [Nat.le_zero.mp h]; exact .start)
  | @step pl k c r hc hg ih =>
    intro h
    rcases Nat.lt_or_ge pl M with z | z
    · have e : pl + 1 = M := by omega
      exact h1 _ (by rw [← e]; exact .step r hc hg)
    · rw [suc_cap hM z]
      exact h2 _ ((ih z).2 c hc hg)
theorem lr_small (ok : S.Ok) (lo : LotOk S.r lot) (h1 : Wds lot.length S.l v1) (h2 : Wds lot.length S.l v2) {Z : List FK} (nd : Z.Nodup) (h : ∀ k ∈ Z, ∃ q, LR S lot v1 v2 q k) : Z.length ≤ 512 := by
  have z : Z.length ≤ ((allTri S lot).map (fk S lot)).length := nodup_le nd fun k hk => by
    obtain ⟨q, r⟩ := h k hk
    obtain ⟨l, n, r2, _, rfl⟩ := lr_rch ok h1 h2 r
    exact List.mem_map.mpr ⟨n.2, allTri_mem.mpr (rch_lr ok h1 h2 r2).1.tr, rfl⟩
  rw [List.length_map] at z
  exact Nat.le_trans z (allTri_len ok lo)
theorem lr_ok (ok : S.Ok) (h1 : Wds lot.length S.l v1) (h2 : Wds lot.length S.l v2) {p : Nat} {k : FK} (r : LR S lot v1 v2 p k) : k.1 < S.tbl.length ∧ k.2.1 < S.tbl.length ∧ k.2.2.length ≤ (othersOf S.r lot).length ∧ ∀ x ∈ k.2.2, x < (othersOf S.r lot).length := by
  obtain ⟨l, n, r2, _, rfl⟩ := lr_rch ok h1 h2 r
  obtain ⟨q1, _, _⟩ := rch_lr ok h1 h2 r2
  refine ⟨q1.tr.a, q1.tr.b, ?_, fun x hx => List.mem_range.mp (List.mem_filter.mp hx).1⟩
  have := List.length_filter_le (fun i => n.2.2.2.testBit i) (List.range (othersOf S.r lot).length)
  rw [List.length_range] at this
  exact this
theorem fok_start (lo : LotOk S.r lot) {M : Nat} : FOk S lot v1 v2 M 0 [((0, 0, []), List.replicate (othersOf S.r lot).length "")] [] := by
  refine ⟨⟨by simp, fun k hk => ?_, fun e he => ?_⟩, List.nodup_nil, (fun k hk => by cases hk), fun _ => ⟨rfl, fun k r => ?_⟩, fun h => by omega⟩
  · rw [List.map_cons, List.map_nil, List.mem_singleton] at hk
    rw [hk]
    exact .start
  · rw [List.mem_singleton.mp he]
    refine ⟨List.length_replicate, fun z hz => ?_⟩
    rw [List.eq_of_mem_replicate hz]
    exact Nat.le_refl _
  · cases r
    exact List.mem_cons_self
/-- one place on -/
structure LOk (S : Qs) (lot : List Nat) (v1 v2 : List Str) (pl : Nat) (A : FK → Prop) (L : List (FK × List Str)) : Prop where
  nd : (L.map (·.1)).Nodup
  mem : ∀ k, k ∈ L.map (·.1) ↔ A k
  ws : ∀ e ∈ L, e.2.length = (othersOf S.r lot).length ∧ ∀ z ∈ e.2, z.length ≤ pl + 1
def Nx (S : Qs) (lot : List Nat) (v1 v2 : List Str) (pl : Nat) (W : List (FK × List Str)) (k : FK) : Prop := ∃ e ∈ W, ∃ c ∈ othC S lot, goesC e.1.2.2 c = true ∧ k = lawSuc S lot v1 v2 pl e.1 c
theorem nx_hok {pl : Nat} {W L : List (FK × List Str)} (f : HOk S lot v1 v2 pl W) (l : LOk S lot v1 v2 pl (Nx S lot v1 v2 pl W) L) : HOk S lot v1 v2 (pl + 1) L := by
  refine ⟨l.nd, fun k hk => ?_, l.ws⟩
  obtain ⟨e, he, c, hc, hg, rfl⟩ := (l.mem k).mp hk
  exact .step (f.lr _ (List.mem_map.mpr ⟨e, he, rfl⟩)) hc hg
/-- a place ahead of the last letters -/
theorem fok_early {M pl : Nat} {W L : List (FK × List Str)} {Z : List FK} (f : FOk S lot v1 v2 M pl W Z) (l : LOk S lot v1 v2 pl (Nx S lot v1 v2 pl W) L) (h : pl < M) : FOk S lot v1 v2 M (pl + 1) L Z := by
  obtain ⟨z0, hall⟩ := f.early (by omega)
  refine ⟨nx_hok f.h l, f.nd, f.zlr, fun _ => ⟨z0, fun k r => ?_⟩, fun z => by omega⟩
  cases r with
  | step r hc hg =>
    obtain ⟨e, he, rfl⟩ := List.mem_map.mp (hall _ r)
    exact (l.mem _).mpr ⟨e, he, _, hc, hg, rfl⟩
theorem early_none {M pl : Nat} {L : List (FK × List Str)} {Z : List FK} (f : FOk S lot v1 v2 M pl L Z) (h : pl ≤ M) (hM : max (maxLen v1) (maxLen v2) = M) (e : L = []) : ¬ Wins S lot v1 v2 := by
  rintro ⟨p, k, hp, r, _⟩
  obtain ⟨k', r'⟩ := lr_le (p := pl) (by omega) r
  have := (f.early h).2 k' r'
  rw [e] at this
  cases this
def fresh_ (Z : List FK) (L : List (FK × List Str)) : List (FK × List Str) := L.filter fun e => decide (e.1 ∉ Z)
/-- a place behind the last letters -/
theorem fok_late {M pl : Nat} {W L : List (FK × List Str)} {Z : List FK} (hM : max (maxLen v1) (maxLen v2) = M) (f : FOk S lot v1 v2 M pl W Z) (l : LOk S lot v1 v2 pl (Nx S lot v1 v2 pl W) L) (h : M ≤ pl) (hf : ∀ k ∈ W.map (·.1), flg S k.1 = flg S k.2.1) :
    (fresh_ Z L = [] → ¬ Wins S lot v1 v2) ∧ (fresh_ Z L ≠ [] → FOk S lot v1 v2 M (pl + 1) (fresh_ Z L) (Z ++ (fresh_ Z L).map (·.1))) := by
  have hok := nx_hok f.h l
  have fmem : ∀ k, k ∈ (fresh_ Z L).map (·.1) ↔ k ∈ L.map (·.1) ∧ k ∉ Z := fun k => by
    unfold fresh_
    constructor
    · intro q
      obtain ⟨e, he, rfl⟩ := List.mem_map.mp q
      obtain ⟨h1, h2⟩ := List.mem_filter.mp he
      exact ⟨List.mem_map.mpr ⟨e, h1, rfl⟩, of_decide_eq_true h2⟩
    · rintro ⟨q, q2⟩
      obtain ⟨e, he, rfl⟩ := List.mem_map.mp q
      exact List.mem_map.mpr ⟨e, List.mem_filter.mpr ⟨he, decide_eq_true q2⟩, rfl⟩
  have dW : ∀ k ∈ W.map (·.1), Done S lot v1 v2 M (Z ++ (fresh_ Z L).map (·.1)) k := fun k hk => by
    refine ⟨hf k hk, fun c hc hg => ?_⟩
    obtain ⟨e, he, rfl⟩ := List.mem_map.mp hk
    have q : lawSuc S lot v1 v2 pl e.1 c ∈ L.map (·.1) := (l.mem _).mpr ⟨e, he, c, hc, hg, rfl⟩
    rw [suc_cap (by omega) h] at q
    rw [List.mem_append]
    by_cases z : lawSuc S lot v1 v2 M e.1 c ∈ Z
    · exact .inl z
    · exact .inr ((fmem _).mpr ⟨q, z⟩)
  have mono : ∀ k, Done S lot v1 v2 M Z k → Done S lot v1 v2 M (Z ++ (fresh_ Z L).map (·.1)) k := fun k d => ⟨d.1, fun c hc hg => List.mem_append_left _ (d.2 c hc hg)⟩
  have dM : ∀ k, LR S lot v1 v2 M k → Done S lot v1 v2 M (Z ++ (fresh_ Z L).map (·.1)) k := fun k r => by
    rcases Nat.lt_or_ge M pl with z | z
    · exact mono k ((f.late z).2.2.1 k r)
    · have e : pl = M := by omega
      subst e
      exact dW k ((f.early (Nat.le_refl _)).2 k r)
  have dZ : ∀ k ∈ Z, Done S lot v1 v2 M (Z ++ (fresh_ Z L).map (·.1)) k := fun k hk => by
    rcases Nat.lt_or_ge M pl with z | z
    · by_cases w : k ∈ W.map (·.1)
      · exact dW k w
      · exact mono k ((f.late z).2.2.2 k hk w)
    · rw [(f.early z).1] at hk
      cases hk
  constructor
  · intro e w
    obtain ⟨q, k, hq, r, hu⟩ := w
    rw [e, List.map_nil, List.append_nil] at dM dZ
    exact hu (all_done (by omega) dM dZ q k r (by omega)).1
  · intro ne
    have fpos : 0 < (fresh_ Z L).length := List.length_pos_iff.mpr ne
    have fnd : ((fresh_ Z L).map (·.1)).Nodup := by
      unfold fresh_
      exact l.nd.sublist (List.filter_sublist.map _)
    refine ⟨⟨fnd, fun k hk => hok.lr k ((fmem k).mp hk).1, fun e he => hok.ws e (List.mem_filter.mp he).1⟩, ?_, fun k hk => ?_, fun z => by omega, fun _ => ⟨fun k hk => List.mem_append_right _ hk, ?_, dM, fun k hk hn => ?_⟩⟩
    · rw [List.nodup_append]
      exact ⟨f.nd, fnd, fun a ha b hb e => ((fmem b).mp hb).2 (e ▸ ha)⟩
    · rcases List.mem_append.mp hk with q | q
      · exact f.zlr k q
      · exact ⟨_, hok.lr k ((fmem k).mp q).1⟩
    · rw [List.length_append, List.length_map]
      rcases Nat.lt_or_ge M pl with z | z
      · have := (f.late z).2.1
        omega
      · omega
    · rcases List.mem_append.mp hk with q | q
      · exact dZ k q
      · exact absurd q hn
theorem fok_end (ok : S.Ok) (lo : LotOk S.r lot) (h1 : Wds lot.length S.l v1) (h2 : Wds lot.length S.l v2) {M : Nat} {W : List (FK × List Str)} {Z : List FK} (f : FOk S lot v1 v2 M (M + 600) W Z) : False := by
  have a := lr_small ok lo h1 h2 f.nd f.zlr
  have b := (f.late (by omega)).2.1
  omega
end
def sgS (s : Nat) : Str := if s = 45 then "" else ⟨#[s]⟩
theorem sgS_len {c : List Nat} {z : Str} (h : z ∈ c.map sgS) : z.length ≤ 1 := by
  obtain ⟨s, _, rfl⟩ := List.mem_map.mp h
  unfold sgS
  split
  · exact Nat.zero_le _
  · exact Nat.le_refl _
theorem pairs_sg (ws : List Str) (c : List Nat) : pairs (ws.map D.str) (c.map fun s => D.str (sgS s)) = (ws.zip (c.map sgS)).map fun p => pairT (.str p.1, .str p.2) := by
  unfold pairs
  rw [List.zip_map_right, List.map_map, List.zipWith_map, List.map_zip_eq_zipWith]
  rfl
theorem str_app (a b : Str) : (a ++ b).length = a.length + b.length := by
  show (a.cps ++ b.cps).size = _
  rw [Array.size_append]
  rfl
def sp_wparted : DSp := sp4 fun a b c d h P => ∃ (S : Qs) (lot : List Nat) (v1 v2 : List Str), a = specD S ∧ b = lotD lot ∧ c = wordsD v1 ∧ d = wordsD v2 ∧ S.Ok ∧ LotOk S.r lot ∧ Wds lot.length S.l v1 ∧ Wds lot.length S.l v2 ∧ (∀ d, (((∃ xs, d = .tup xs) ∧ Wins S lot v1 v2) ∨ (d = .non ∧ ¬ Wins S lot v1 v2)) → P d h)
section
variable {P : Program} {w : World} {K : PySem.W.Frag} {mg : Str → Option Value} {base : Heap}
theorem ok_wparted (T : Txt K mg) : DFn P w K mg base 3 T.a_wparted T.d_wparted ["spec", "lot", "first", "second"] sp_wparted := by
  refine dfn4 T.F_wparted sc_wparted rfl (fun cdv A outer s H E hr => ⟨_, (dss_cons (ds_asg (de_var 0) (dg_tup (n := 3) rfl (dgs_cons (dg_name (i := 4) sc_wparted.nd rfl (by first | exact Or.inl rfl | exact Or.inr rfl)) (dgs_cons (dg_name (i := 5) sc_wparted.nd rfl (by first | exact Or.inl rfl | exact Or.inr rfl)) (dgs_cons (dg_name (i := 6) sc_wparted.nd rfl (by first | exact Or.inl rfl | exact Or.inr rfl)) dgs_nil)))))
  (dss_cons (ds_set (i := 7) sc_wparted.nd rfl (by first | exact Or.inl rfl | exact Or.inr rfl) (de_call (ok_wcolumns T) (hr.mono (by decide)) (by rfl) T.m_wcolumns T.F_wcolumns.kp T.b_wcolumns (da_cons (de_op op_dSub (de_var 4) (de_callB call_dLen (by rfl) T.b_len (by decide +kernel) (da_cons (de_var 1) da_nil))) (da_cons (de_var 5) da_nil))))
  (dss_cons (ds_set (i := 8) sc_wparted.nd rfl (by first | exact Or.inl rfl | exact Or.inr rfl) (de_callB (call_dMax rfl) (by rfl) T.b_max (by decide +kernel) (da_cons (de_frz (de_lc (own := [("word", 21)]) rfl sc_wparted.nd (di_tup (de_op op_dAdd (de_var 2) (de_var 3))) (blkOk_by (N := ["spec", "lot", "first", "second", "rows", "letters", "table", "columns_v", "most", "here", "seen", "place", "key", "later", "ahead", "beside", "column", "one", "other", "ended", "signs", "word", "row", "sign"]) (sc := defScope s_wparted) (own := [("word", 21)]) (by decide +kernel)) (by decide) (fun _ _ _ _ _ => (dg_name (i := 21) sc_wparted.nd rfl (by first | exact Or.inl rfl | exact Or.inr rfl))) (fun _ _ _ _ _ => dts_nil) (fun _ _ _ _ _ => (de_callB call_dLen (by rfl) T.b_len (by decide +kernel) (da_cons (de_var 21) da_nil))))) da_nil)))
  (dss_cons (ds_set (i := 9) sc_wparted.nd rfl (by first | exact Or.inl rfl | exact Or.inr rfl) (de_frz (de_dict1 hr.units (de_tup (da_cons de_int (da_cons de_int (da_cons (de_tup da_nil) da_nil)))) (de_op op_dMul1 (de_tup (da_cons de_str da_nil)) (de_op op_dSub (de_var 4) (de_callB call_dLen (by rfl) T.b_len (by decide +kernel) (da_cons (de_var 1) da_nil)))))))
  (dss_cons (ds_set (i := 10) sc_wparted.nd rfl (by first | exact Or.inl rfl | exact Or.inr rfl) de_dnew)
  (dss_cons (ds_for PassesOwn.never rfl (di_range1 (by rfl) T.b_range (da_cons (de_op op_dAdd (de_var 8) de_int) da_nil)) (dg_name (i := 11) sc_wparted.nd rfl (by first | exact Or.inl rfl | exact Or.inr rfl))
  (dss_cons (ds_if (dt_cmp op_dGe (de_var 11) (de_var 8) (nomark _))
  (dss_one (ds_for PassesOwn.never rfl (di_dk (de_var 9)) (dg_name (i := 12) sc_wparted.nd rfl (by first | exact Or.inl rfl | exact Or.inr rfl))
  (dss_one (ds_if (dt_cmp (op_dNeA hr.units) (de_ix (de_ix (de_var 6) (de_ix (de_var 12) de_int)) de_int) (de_ix (de_ix (de_var 6) (de_ix (de_var 12) de_int)) de_int) (nomark _))
  (dss_one (ds_ret (de_ixD hr.units (de_var 9) (de_var 12))))
  dss_nil))))
  dss_nil)
  (dss_cons (ds_set (i := 13) sc_wparted.nd rfl (by first | exact Or.inl rfl | exact Or.inr rfl) de_dnew)
  (dss_cons (ds_par (i := 14) (j := 15) rfl sc_wparted.nd rfl rfl (by decide) rfl rfl (da_cons (de_call (ok_wcolumn_at T) (hr.mono (by decide)) (by rfl) T.m_wcolumn_at T.F_wcolumn_at.kp T.b_wcolumn_at (da_cons (de_var 2) (da_cons (de_var 11) da_nil))) (da_cons (de_call (ok_wcolumn_at T) (hr.mono (by decide)) (by rfl) T.m_wcolumn_at T.F_wcolumn_at.kp T.b_wcolumn_at (da_cons (de_var 3) (da_cons (de_var 11) da_nil))) da_nil)) (by rfl))
  (dss_cons (ds_for PassesOwn.never rfl (di_dk (de_var 9)) (dg_name (i := 12) sc_wparted.nd rfl (by first | exact Or.inl rfl | exact Or.inr rfl))
  (dss_one (ds_for PassesOwn.never rfl (di_list (de_frz (de_lc (own := [("column", 16)]) rfl sc_wparted.nd (di_list (de_var 7)) (blkOk_by (N := ["spec", "lot", "first", "second", "rows", "letters", "table", "columns_v", "most", "here", "seen", "place", "key", "later", "ahead", "beside", "column", "one", "other", "ended", "signs", "word", "row", "sign"]) (sc := defScope s_wparted) (own := [("column", 16)]) (by decide +kernel)) (by decide) (fun _ _ _ _ _ => (dg_name (i := 16) sc_wparted.nd rfl (by first | exact Or.inl rfl | exact Or.inr rfl))) (fun _ _ _ _ _ => (dts_one (dt_val (de_call (ok_wgoes T) (hr.mono (by decide)) (by rfl) T.m_wgoes T.F_wgoes.kp T.b_wgoes (da_cons (de_ix (de_var 12) de_int) (da_cons (de_var 16) da_nil)))))) (fun _ _ _ _ _ => (de_var 16))))) (dg_name (i := 16) sc_wparted.nd rfl (by first | exact Or.inl rfl | exact Or.inr rfl))
  (dss_cons (ds_set (i := 17) sc_wparted.nd rfl (by first | exact Or.inl rfl | exact Or.inr rfl) (de_call (ok_wlead T) (hr.mono (by decide)) (by rfl) T.m_wlead T.F_wlead.kp T.b_wlead (da_cons (de_var 0) (da_cons (de_ix (de_var 12) de_int) (da_cons (de_call (ok_wplaced T) (hr.mono (by decide)) (by rfl) T.m_wplaced T.F_wplaced.kp T.b_wplaced (da_cons (de_var 4) (da_cons (de_var 1) (da_cons (de_var 14) (da_cons (de_var 16) da_nil))))) da_nil)))))
  (dss_cons (ds_set (i := 18) sc_wparted.nd rfl (by first | exact Or.inl rfl | exact Or.inr rfl) (de_call (ok_wlead T) (hr.mono (by decide)) (by rfl) T.m_wlead T.F_wlead.kp T.b_wlead (da_cons (de_var 0) (da_cons (de_ix (de_var 12) de_int) (da_cons (de_call (ok_wplaced T) (hr.mono (by decide)) (by rfl) T.m_wplaced T.F_wplaced.kp T.b_wplaced (da_cons (de_var 4) (da_cons (de_var 1) (da_cons (de_var 15) (da_cons (de_var 16) da_nil))))) da_nil)))))
  (dss_cons (ds_set (i := 19) sc_wparted.nd rfl (by first | exact Or.inl rfl | exact Or.inr rfl) (de_callTy call_dTupOf (by rfl) T.b_tuple (by decide +kernel) (da_cons (de_frz (de_lc (own := [("row", 22)]) rfl sc_wparted.nd (di_range1 (by rfl) T.b_range (da_cons (de_callB call_dLen (by rfl) T.b_len (by decide +kernel) (da_cons (de_var 16) da_nil)) da_nil)) (blkOk_by (N := ["spec", "lot", "first", "second", "rows", "letters", "table", "columns_v", "most", "here", "seen", "place", "key", "later", "ahead", "beside", "column", "one", "other", "ended", "signs", "word", "row", "sign"]) (sc := defScope s_wparted) (own := [("row", 22)]) (by decide +kernel)) (by decide) (fun _ _ _ _ _ => (dg_name (i := 22) sc_wparted.nd rfl (by first | exact Or.inl rfl | exact Or.inr rfl))) (fun _ _ _ _ _ => (dts_one (dt_cmp (op_dEqA hr.units) (de_ix (de_var 16) (de_var 22)) de_str (nomark _)))) (fun _ _ _ _ _ => (de_var 22)))) da_nil)))
  (dss_one (ds_if (dt_cmp (op_dNotInA hr.units) (de_tup (da_cons (de_var 17) (da_cons (de_var 18) (da_cons (de_var 19) da_nil)))) (de_var 13) (by rfl))
  (dss_cons (ds_frz (by rfl) (ds_setLc (i := 20) (own := [("sign", 23)]) rfl sc_wparted.nd rfl rfl (sw_true rfl rfl rfl (by decide +kernel)) (di_tup (de_var 16)) (blkOk_by (N := ["spec", "lot", "first", "second", "rows", "letters", "table", "columns_v", "most", "here", "seen", "place", "key", "later", "ahead", "beside", "column", "one", "other", "ended", "signs", "word", "row", "sign"]) (sc := defScope s_wparted) (own := [("sign", 23)]) (by decide +kernel)) (by decide) (fun _ _ _ _ _ => (dg_name (i := 23) sc_wparted.nd rfl (by first | exact Or.inl rfl | exact Or.inr rfl))) (fun _ _ _ _ _ => dts_nil) (fun _ _ _ _ _ => (de_ifExp (dt_cmp (op_dEqA hr.units) (de_var 23) de_str (nomark _)) de_str (de_var 23)))))
  (dss_one (ds_asg (de_callTy call_dTupOf (by rfl) T.b_tuple (by decide +kernel) (da_cons (de_frz (de_lc (own := [("word", 21), ("sign", 23)]) rfl sc_wparted.nd (di_zipM (by rfl) T.b_zip (da_cons (de_ixD hr.units (de_var 9) (de_var 12)) (da_cons (de_var 20) da_nil))) (blkOk_by (N := ["spec", "lot", "first", "second", "rows", "letters", "table", "columns_v", "most", "here", "seen", "place", "key", "later", "ahead", "beside", "column", "one", "other", "ended", "signs", "word", "row", "sign"]) (sc := defScope s_wparted) (own := [("word", 21), ("sign", 23)]) (by decide +kernel)) (by decide) (fun _ _ _ _ _ => (dg_tup (n := 2) rfl (dgs_cons (dg_name (i := 21) sc_wparted.nd rfl (by first | exact Or.inl rfl | exact Or.inr rfl)) (dgs_cons (dg_name (i := 23) sc_wparted.nd rfl (by first | exact Or.inl rfl | exact Or.inr rfl)) dgs_nil)))) (fun _ _ _ _ _ => dts_nil) (fun _ _ _ _ _ => (de_op op_dAdd (de_var 21) (de_var 23))))) da_nil)) (dg_sub (de_var 13) (de_tup (da_cons (de_var 17) (da_cons (de_var 18) (da_cons (de_var 19) da_nil)))) (set_dD hr.units)))))
  dss_nil))))))))
  (dss_cons (ds_set (i := 9) sc_wparted.nd rfl (by first | exact Or.inl rfl | exact Or.inr rfl) (de_frz (de_var 13)))
  (dss_cons (ds_if (dt_cmp op_dGe (de_var 11) (de_var 8) (nomark _))
  (dss_cons (ds_set (i := 9) sc_wparted.nd rfl (by first | exact Or.inl rfl | exact Or.inr rfl) (de_frz (de_callTy (call_dDictOf hr.units rfl) (by rfl) T.b_dict (by decide +kernel) (da_cons (de_frz (de_lc (own := [("key", 12)]) rfl sc_wparted.nd (di_dk (de_var 9)) (blkOk_by (N := ["spec", "lot", "first", "second", "rows", "letters", "table", "columns_v", "most", "here", "seen", "place", "key", "later", "ahead", "beside", "column", "one", "other", "ended", "signs", "word", "row", "sign"]) (sc := defScope s_wparted) (own := [("key", 12)]) (by decide +kernel)) (by decide) (fun _ _ _ _ _ => (dg_name (i := 12) sc_wparted.nd rfl (by first | exact Or.inl rfl | exact Or.inr rfl))) (fun _ _ _ _ _ => (dts_one (dt_cmp (op_dNotInA hr.units) (de_var 12) (de_var 10) (by rfl)))) (fun _ _ _ _ _ => (de_tup (da_cons (de_var 12) (da_cons (de_ixD hr.units (de_var 9) (de_var 12)) da_nil)))))) da_nil))))
  (dss_one (ds_for PassesOwn.never rfl (di_dk (de_var 9)) (dg_name (i := 12) sc_wparted.nd rfl (by first | exact Or.inl rfl | exact Or.inr rfl))
  (dss_one (ds_asg de_bl (dg_sub (de_var 10) (de_var 12) (set_dD hr.units)))))))
  dss_nil)
  (dss_one (ds_if (dt_cmp (op_dEqA hr.units) (de_callB call_dLenD (by rfl) T.b_len (by decide +kernel) (da_cons (de_var 9) da_nil)) de_int (nomark _))
  (dss_one ds_break)
  dss_nil)))))))))
  (dss_one (ds_ret de_non)))))))), fun p0 p1 p2 p3 h Q q => ?_⟩)
  rw [show dstart ["spec", "lot", "first", "second", "rows", "letters", "table", "columns_v", "most", "here", "seen", "place", "key", "later", "ahead", "beside", "column", "one", "other", "ended", "signs", "word", "row", "sign"] [p0, p1, p2, p3] = [some p0, some p1, some p2, some p3, none, none, none, none, none, none, none, none, none, none, none, none, none, none, none, none, none, none, none, none] from rfl]
  obtain ⟨S, lot, v1, v2, rfl, rfl, rfl, rfl, ok, lo, w1, w2, q⟩ := q
  have qs := fun xs w => q (.tup xs) (.inl ⟨⟨xs, rfl⟩, w⟩)
  have qn := fun w => q .non (.inr ⟨rfl, w⟩)
  have line81 := line81
  have line1000 := line1000
  have line9000 := line9000
  have hol := others_len lo
  have r4 := ok.r4
  have lone := lo.ne
  have lall := lo.all
  have vl1 := w1.len
  have vl2 := w2.len
  have osmall : (othC S lot).length ≤ 81 := cols_small ok.l2 (by omega)
  have hw60 : ∀ z ∈ v1 ++ v2, z.length ≤ 60 := fun z hz => (List.mem_append.mp hz).elim (w1.short z) (w2.short z)
  obtain ⟨M, hM⟩ : ∃ M, maxLen (v1 ++ v2) = M := ⟨_, rfl⟩
  have M60 : M ≤ 60 := by rw [← hM]; exact maxLen_le hw60
  have hMM : max (maxLen v1) (maxLen v2) = M := by
    have a1 : maxLen v1 ≤ M := by rw [← hM]; exact maxLen_le fun z hz => le_maxLen (List.mem_append_left _ hz)
    have a2 : maxLen v2 ≤ M := by rw [← hM]; exact maxLen_le fun z hz => le_maxLen (List.mem_append_right _ hz)
    have a3 : M ≤ max (maxLen v1) (maxLen v2) := by
      rw [← hM]
      refine maxLen_le fun z hz => ?_
      rcases List.mem_append.mp hz with q | q
      · have := le_maxLen q; omega
      · have := le_maxLen q; omega
    omega
  unfold specD
  walk_at "dgo"
  have hlot : lotD lot = .tup (lot.map nD) := rfl
  rw [hlot]
  walk_at "dgo"
  rw [List.length_map]
  refine ⟨(othersOf S.r lot).length, S.l, (by show D.int _ = D.int _; congr 1; omega), rfl, by omega, ok.l1, ok.l2, ?_⟩
  unfold wordsD
  walk_at "dgo"
  refine ⟨by rw [List.length_map, List.length_map]; omega, ?_⟩
  refine lcA D.str (v1 ++ v2) (fun z => .int (z.length : Int)) (by rw [List.map_append]) (fun _ _ => trivial) (fun z hz h1 s1 R hR => ?_) (by rw [List.length_append]; omega) ?_
  · have h60 := hw60 z hz
    walk_at "dgo"
    exact ⟨by omega, hR⟩
  walk_at "dgo"
  refine ⟨by rw [List.length_map, List.length_append]; omega, ?_⟩
  rw [maxL_len, hM]
  intro p np
  unfold dMul1
  refine ⟨⟨List.cons_ne_nil _ _, by omega, by omega, by decide⟩, dctAt_of put_same ⟨⟨key_fk (0, 0, []), by show 0 < _; omega⟩, ?_⟩⟩
  rw [put_put, frz_newD np]
  walk_at "dgo"
  intro sn nsn
  refine ⟨⟨by omega, by omega⟩, ?_⟩
  rw [show ((M : Int) + 600).toNat = M + 600 by omega, show (List.replicate ((S.r : Int) - (lot.length : Int)).toNat [D.str ""]).flatten = (List.replicate (othersOf S.r lot).length ("" : Str)).map D.str by rw [show ((S.r : Int) - (lot.length : Int)).toNat = (othersOf S.r lot).length by omega, List.flatten_replicate_singleton, List.map_replicate]]
  refine for_pre (fun (i : Nat) => .int ((0 : Int) + i)) (List.range (M + 600)) rfl (fun pre σ h' => ∃ (W : List (FK × List Str)) (Z : List FK) (a11 a12 a13 a14 a15 a16 a17 a18 a19 a20 : Option D), σ = [some (D.tup [nD S.r, nD S.l, tblD S.tbl]), some (.tup (lot.map nD)), some (.tup (v1.map D.str)), some (.tup (v2.map D.str)), some (nD S.r), some (nD S.l), some (tblD S.tbl), some (colsD (othersOf S.r lot).length S.l), some (.int (M : Int)), some (hD W), some (.ref sn), a11, a12, a13, a14, a15, a16, a17, a18, a19, a20, none, none, none] ∧ h' = put h sn (.dct (skv Z)) ∧ FOk S lot v1 v2 M pre.length W Z)
    ⟨_, [], none, none, none, none, none, none, none, none, none, none, rfl, rfl, fok_start lo⟩ (fun _ _ _ _ => trivial) ?_ ?_
  · rintro pre i post σ h6 e ⟨W, Z, a11, a12, a13, a14, a15, a16, a17, a18, a19, a20, rfl, rfl, f⟩ nx hnx
    have hi : i = pre.length := by
      have h1 : (List.range (M + 600))[pre.length]? = some i := by rw [e, List.getElem?_append_right (Nat.le_refl _), Nat.sub_self]; rfl
      have h2 := (List.getElem?_eq_some_iff.mp h1).2
      rw [List.getElem_range] at h2
      exact h2.symm
    subst hi
    have hpl : pre.length < M + 600 := by
      have := congrArg List.length e
      rw [List.length_range, List.length_append, List.length_cons] at this
      omega
    have el : (pre ++ [pre.length]).length = pre.length + 1 := by rw [List.length_append, List.length_singleton]
    have wl : W.length ≤ 512 := by
      have := lr_small ok lo w1 w2 f.h.nd (fun k hk => ⟨_, f.h.lr k hk⟩)
      rw [List.length_map] at this
      exact this
    have hsub : ∀ o : DO, Sub h (put h sn o) := fun o => Sub.new nsn
    simp only [gNm, List.set_cons_succ, List.set_cons_zero]
    refine seq_by (fun σ h' => ∃ a12 : Option D, σ = [some (D.tup [nD S.r, nD S.l, tblD S.tbl]), some (.tup (lot.map nD)), some (.tup (v1.map D.str)), some (.tup (v2.map D.str)), some (nD S.r), some (nD S.l), some (tblD S.tbl), some (colsD (othersOf S.r lot).length S.l), some (.int (M : Int)), some (hD W), some (.ref sn), some (.int (0 + (pre.length : Int))), a12, a13, a14, a15, a16, a17, a18, a19, a20, none, none, none] ∧ h' = put h sn (.dct (skv Z)) ∧ (M ≤ pre.length → ∀ k ∈ W.map (·.1), flg S k.1 = flg S k.2.1)) ?_ fun nx1 hnx1 => ?_
    · rintro σ h7 ⟨a12, rfl, rfl, hfl⟩
      walk_at "dgo"
      intro L nL
      refine ⟨v1, pre.length, rfl, by rw [Int.zero_add], by omega, fun z hz => Nat.le_trans (w1.short z hz) (by decide), ?_⟩
      refine ⟨v2, pre.length, rfl, by rw [Int.zero_add], by omega, fun z hz => Nat.le_trans (w2.short z hz) (by decide), ?_⟩
      have hhD : hD W = .rod ((hkv W).map (·.1)) ((hkv W).map (·.2)) := rfl
      rw [hhD]
      walk_at "dgo"
      rw [← hhD]
      have nLs : L ≠ sn := fun z => by rw [z, put_same] at nL; cases nL
      have nLh : h L = none := by rw [put_ne nLs] at nL; exact nL
      have sub2 : ∀ o u : DO, Sub h (put (put h sn o) L u) := fun o u => (Sub.new nsn).trans (Sub.new (by rw [put_ne nLs]; exact nLh))
      have cm : ∀ v : List Str, Wds lot.length S.l v → colAt v pre.length ∈ cols lot.length (sg S.l) := fun v w => by
        have := colAt_mem w.ok pre.length
        rw [w.len] at this
        exact this
      refine ⟨by rw [List.length_map, List.length_map], ?_⟩
      refine for_pre (fun (e : FK × List Str) => fkD e.1) W (hkv_keys W) (fun pre2 σ h' => ∃ (Lw : List (FK × List Str)) (b12 b16 b17 b18 b19 b20 : Option D), σ = [some (D.tup [nD S.r, nD S.l, tblD S.tbl]), some (.tup (lot.map nD)), some (.tup (v1.map D.str)), some (.tup (v2.map D.str)), some (nD S.r), some (nD S.l), some (tblD S.tbl), some (colsD (othersOf S.r lot).length S.l), some (.int (M : Int)), some (hD W), some (.ref sn), some (.int (0 + (pre.length : Int))), b12, some (.ref L), some (encC (colAt v1 pre.length)), some (encC (colAt v2 pre.length)), b16, b17, b18, b19, b20, none, none, none] ∧ h' = put (put h sn (.dct (skv Z))) L (.dct (hkv Lw)) ∧ LOk S lot v1 v2 pre.length (Nx S lot v1 v2 pre.length pre2) Lw)
        ⟨[], a12, a16, a17, a18, a19, a20, rfl, rfl, ⟨List.nodup_nil, fun k => ⟨(fun h => by cases h), fun ⟨e, he, _⟩ => by cases he⟩, fun e he => by cases he⟩⟩ (fun _ _ _ _ => trivial) ?_ ?_
      · rintro pre2 e post2 σ h8 e2 ⟨Lw, b12, b16, b17, b18, b19, b20, rfl, rfl, lk⟩ nx2 hnx2
        have he : e ∈ W := by rw [e2]; exact List.mem_append_right _ List.mem_cons_self
        have lr := f.h.lr _ (List.mem_map.mpr ⟨e, he, rfl⟩)
        obtain ⟨q1, q2, q3, q4⟩ := lr_ok ok w1 w2 lr
        rw [show fkD e.1 = .tup [nD e.1.1, nD e.1.2.1, .tup (e.1.2.2.map nD)] from rfl]
        unfold colsD
        walk_at "dgo"
        refine lcF encC (othC S lot) encC (fun c => goesC e.1.2.2 c) rfl (fun _ _ => trivial) (fun c hc h9 s9 R R' hR hR' => ?_) (by omega) ?_
        · refine ⟨e.1.2.2, c, rfl, rfl, by omega, fun x hx => by rw [oc_len hc]; exact q4 x hx, ?_⟩
          cases hg : goesC e.1.2.2 c
          · walk_at "dgo"
            exact hR' hg
          · walk_at "dgo"
            exact hR hg
        walk_at "dgo"
        refine for_pre encC ((othC S lot).filter fun c => goesC e.1.2.2 c) rfl (fun pre3 σ h' => ∃ (Lw : List (FK × List Str)) (b16 b17 b18 b19 b20 : Option D), σ = [some (D.tup [nD S.r, nD S.l, tblD S.tbl]), some (.tup (lot.map nD)), some (.tup (v1.map D.str)), some (.tup (v2.map D.str)), some (nD S.r), some (nD S.l), some (tblD S.tbl), some (colsD (othersOf S.r lot).length S.l), some (.int (M : Int)), some (hD W), some (.ref sn), some (.int (0 + (pre.length : Int))), some (fkD e.1), some (.ref L), some (encC (colAt v1 pre.length)), some (encC (colAt v2 pre.length)), b16, b17, b18, b19, b20, none, none, none] ∧ h' = put (put h sn (.dct (skv Z))) L (.dct (hkv Lw)) ∧ LOk S lot v1 v2 pre.length (fun k => Nx S lot v1 v2 pre.length pre2 k ∨ ∃ c ∈ pre3, k = lawSuc S lot v1 v2 pre.length e.1 c) Lw)
          ⟨Lw, b16, b17, b18, b19, b20, rfl, rfl, ⟨lk.nd, fun k => (lk.mem k).trans ⟨.inl, fun h => h.elim id fun ⟨c, hc, _⟩ => by cases hc⟩, lk.ws⟩⟩ (fun _ _ _ _ => trivial) ?_ ?_
        · rintro pre3 c post3 σ h9 e3 ⟨Lw, b16, b17, b18, b19, b20, rfl, rfl, lk⟩ nx3 hnx3
          have hcf : c ∈ (othC S lot).filter fun c => goesC e.1.2.2 c := by rw [e3]; exact List.mem_append_right _ List.mem_cons_self
          obtain ⟨hc, hg⟩ := List.mem_filter.mp hcf
          have hcl := oc_len hc
          rw [show fkD e.1 = .tup [nD e.1.1, nD e.1.2.1, .tup (e.1.2.2.map nD)] from rfl]
          walk_at "dgo"
          refine ⟨S.r, lot, colAt v1 pre.length, c, rfl, rfl, rfl, rfl, r4, lo, by unfold colAt; rw [List.length_map]; exact vl1.symm, hcl.symm, ?_⟩
          refine ⟨S, e.1.1, _, rfl, rfl, rfl, ok, q1, place_mem ok.l2 (cm v1 w1) hc, ?_⟩
          refine ⟨S.r, lot, colAt v2 pre.length, c, rfl, rfl, rfl, rfl, r4, lo, by unfold colAt; rw [List.length_map]; exact vl2.symm, hcl.symm, ?_⟩
          refine ⟨S, e.1.2.1, _, rfl, rfl, rfl, ok, q2, place_mem ok.l2 (cm v2 w2) hc, ?_⟩
          rw [show encC c = .tup (c.map sgD) from rfl]
          walk_at "dgo"
          rw [List.length_map]
          refine ⟨⟨by omega, by omega⟩, ?_⟩
          rw [Int.toNat_natCast]
          refine lcF (fun (i : Nat) => .int ((0 : Int) + i)) (List.range c.length) nD (fun x => decide (c.getD x 45 = 45)) rfl (fun _ _ => trivial) (fun x hx h10 s10 R R' hR hR' => ?_) (by rw [List.length_range]; omega) ?_
          · have hxl := List.mem_range.mp hx
            walk_at "dgo"
            rw [Int.zero_add]
            refine oAt_of (map_at sgD (getD_some 45 hxl)) ?_
            rw [show sgD (c.getD x 45) = .str ⟨#[c.getD x 45]⟩ from rfl]
            walk_at "dgo"
            rw [sgn_dec _ 45 "-" rfl]
            by_cases h45 : c.getD x 45 = 45
            · rw [decide_eq_true h45]
              walk_at "dgo"
              exact hR (decide_eq_true h45)
            · rw [decide_eq_false h45]
              walk_at "dgo"
              exact hR' (decide_eq_false h45)
          walk_at "dgo"
          have hk : D.tup [nD (lead S e.1.1 (placeC S.r lot (colAt v1 pre.length) c)), nD (lead S e.1.2.1 (placeC S.r lot (colAt v2 pre.length) c)), .tup (((List.range c.length).filter fun x => decide (c.getD x 45 = 45)).map nD)] = fkD (lawSuc S lot v1 v2 pre.length e.1 c) := rfl
          rw [hk]
          refine rdct_of put_same ⟨key_fk _, ?_⟩
          cases hin : (dlook (hkv Lw) (fkD (lawSuc S lot v1 v2 pre.length e.1 c))).isSome with
          | true =>
            walk_at "dgo"
            refine hnx3 _ _ ⟨Lw, _, _, _, _, _, rfl, rfl, ⟨lk.nd, fun k => (lk.mem k).trans ⟨fun q => ?_, fun q => ?_⟩, lk.ws⟩⟩
            · rcases q with q | ⟨c', hc', q⟩
              · exact .inl q
              · exact .inr ⟨c', List.mem_append_left _ hc', q⟩
            · rcases q with q | ⟨c', hc', q⟩
              · exact .inl q
              · rcases List.mem_append.mp hc' with z | z
                · exact .inr ⟨c', z, q⟩
                · rw [List.mem_singleton.mp z] at q
                  rw [q]
                  exact (lk.mem _).mp (hkv_in.mp hin)
          | false =>
            have hnone : dlook (hkv Lw) (fkD (lawSuc S lot v1 v2 pre.length e.1 c)) = none := by
              cases z : dlook (hkv Lw) (fkD (lawSuc S lot v1 v2 pre.length e.1 c)) with
              | none => rfl
              | some y => rw [z] at hin; cases hin
            have hnin : lawSuc S lot v1 v2 pre.length e.1 c ∉ Lw.map (·.1) := fun z => by
              have := hkv_in.mpr z
              rw [hin] at this
              cases this
            have e2l := (f.h.ws e he).1
            have e2w := (f.h.ws e he).2
            have ll : Lw.length ≤ 512 := by
              have := lr_small ok lo w1 w2 lk.nd (fun k hk => by
                rcases (lk.mem k).mp hk with ⟨e', he', c', hc', hg', rfl⟩ | ⟨c', hc', rfl⟩
                · exact ⟨_, .step (f.h.lr _ (List.mem_map.mpr ⟨e', (by rw [e2]; exact List.mem_append_left _ he'), rfl⟩)) hc' hg'⟩
                · have hcf' : c' ∈ (othC S lot).filter fun c => goesC e.1.2.2 c := by rw [e3]; exact List.mem_append_left _ hc'
                  exact ⟨_, .step lr (List.mem_filter.mp hcf').1 (List.mem_filter.mp hcf').2⟩)
              rw [List.length_map] at this
              exact this
            walk_at "dgo"
            refine lcA sgD c (fun s => .str (sgS s)) rfl (fun _ _ => trivial) (fun s hs h10 s10 R hR => ?_) (by omega) ?_
            · rw [show sgD s = .str ⟨#[s]⟩ from rfl]
              walk_at "dgo"
              rw [sgn_dec _ 45 "-" rfl]
              unfold sgS at hR
              by_cases h45 : s = 45
              · rw [decide_eq_true h45]
                rw [if_pos h45] at hR
                walk_at "dgo"
                exact hR
              · rw [decide_eq_false h45]
                rw [if_neg h45] at hR
                walk_at "dgo"
                exact hR
            have hhD : hD W = .rod ((hkv W).map (·.1)) ((hkv W).map (·.2)) := rfl
            rw [hhD]
            walk_at "dgo"
            rw [zip_maps]
            refine ⟨key_fk e.1, oAt_of (hkv_look f.h.nd he) ?_⟩
            walk_at "dgo"
            refine lcA (fun (p : Str × Str) => pairT (.str p.1, .str p.2)) (e.2.zip (c.map sgS)) (fun p => .str (p.1 ++ p.2)) (pairs_sg _ _) (fun _ _ => trivial) (fun q hq h10 s10 R hR => ?_) (by rw [List.length_zip, List.length_map]; omega) ?_
            · have hz1 := e2w _ (List.of_mem_zip hq).1
              have hz2 := sgS_len (List.of_mem_zip hq).2
              unfold pairT
              walk_at "dgo"
              exact ⟨by omega, hR⟩
            walk_at "dgo"
            refine dctAt_of put_same ⟨⟨key_fk _, by unfold hkv; rw [List.length_map]; omega⟩, ?_⟩
            rw [put_put, dput_new hnone]
            refine hnx3 _ _ ⟨Lw ++ [(lawSuc S lot v1 v2 pre.length e.1 c, (e.2.zip (c.map sgS)).map fun p => p.1 ++ p.2)], _, _, _, _, _, rfl, ?_, ⟨?_, fun k => ?_, fun e' he' => ?_⟩⟩
            · unfold hkv
              rw [List.map_append, List.map_cons, List.map_nil, List.map_map]
              rfl
            · rw [List.map_append, List.nodup_append]
              refine ⟨lk.nd, by simp, fun a ha b hb z => ?_⟩
              rw [List.map_cons, List.map_nil, List.mem_singleton] at hb
              rw [z, hb] at ha
              exact hnin ha
            · rw [List.map_append, List.mem_append, lk.mem k, List.map_cons, List.map_nil, List.mem_singleton]
              constructor
              · rintro ((q | ⟨c', hc', q⟩) | q)
                · exact .inl q
                · exact .inr ⟨c', List.mem_append_left _ hc', q⟩
                · exact .inr ⟨c, List.mem_append_right _ (List.mem_singleton.mpr rfl), q⟩
              · rintro (q | ⟨c', hc', q⟩)
                · exact .inl (.inl q)
                · rcases List.mem_append.mp hc' with z | z
                  · exact .inl (.inr ⟨c', z, q⟩)
                  · rw [List.mem_singleton.mp z] at q
                    exact .inr q
            · rcases List.mem_append.mp he' with z | z
              · exact lk.ws e' z
              · rw [List.mem_singleton.mp z]
                refine ⟨by rw [List.length_map, List.length_zip, List.length_map]; omega, fun z hz => ?_⟩
                obtain ⟨q, hq, rfl⟩ := List.mem_map.mp hz
                have hz1 := e2w _ (List.of_mem_zip hq).1
                have hz2 := sgS_len (List.of_mem_zip hq).2
                rw [str_app]
                omega
        · rintro σ h9 ⟨Lw, b16, b17, b18, b19, b20, rfl, rfl, lk⟩
          refine hnx2 _ _ ⟨Lw, _, _, _, _, _, _, rfl, rfl, ⟨lk.nd, fun k => (lk.mem k).trans ⟨fun q => ?_, fun q => ?_⟩, lk.ws⟩⟩
          · rcases q with ⟨e', he', q⟩ | ⟨c, hc, q⟩
            · exact ⟨e', List.mem_append_left _ he', q⟩
            · exact ⟨e, List.mem_append_right _ (List.mem_singleton.mpr rfl), c, (List.mem_filter.mp hc).1, (List.mem_filter.mp hc).2, q⟩
          · obtain ⟨e', he', c, hc, hg, q⟩ := q
            rcases List.mem_append.mp he' with z | z
            · exact .inl ⟨e', z, c, hc, hg, q⟩
            · rw [List.mem_singleton.mp z] at hg q
              exact .inr ⟨c, List.mem_filter.mpr ⟨hc, hg⟩, q⟩
      · rintro σ h8 ⟨Lw, b12, b16, b17, b18, b19, b20, rfl, rfl, lk⟩
        have ll : Lw.length ≤ 512 := by
          have := lr_small ok lo w1 w2 lk.nd (fun k hk => ⟨_, (nx_hok f.h lk).lr k hk⟩)
          rw [List.length_map] at this
          exact this
        walk_at "dgo"
        rw [frz_newD nL]
        walk_at "dgo"
        have hlD : hD Lw = .rod ((hkv Lw).map (·.1)) ((hkv Lw).map (·.2)) := rfl
        by_cases hMp : M ≤ pre.length
        · obtain ⟨r1, r2⟩ := fok_late hMM f lk hMp (hfl hMp)
          have zl : Z.length ≤ 512 := lr_small ok lo w1 w2 f.nd f.zlr
          have fl : (fresh_ Z Lw).length ≤ 512 := by
            have := List.length_filter_le (fun e : FK × List Str => decide (e.1 ∉ Z)) Lw
            unfold fresh_
            omega
          have fnd : ((fresh_ Z Lw).map (·.1)).Nodup := by
            unfold fresh_
            exact lk.nd.sublist (List.filter_sublist.map _)
          rw [decide_eq_true (show (M : Int) ≤ 0 + (pre.length : Int) by omega)]
          walk_at "dgo"
          refine ⟨by rw [List.length_map, List.length_map], ?_⟩
          refine lcF (fun (e : FK × List Str) => fkD e.1) Lw (fun e => pairT (fkD e.1, .tup (e.2.map D.str))) (fun e => decide (e.1 ∉ Z)) (hkv_keys Lw) (fun _ _ => trivial) (fun e he h9 s9 R R' hR hR' => ?_) (by omega) ?_
          · walk_at "dgo"
            refine rdct_of (s9 _ _ put_same) ⟨key_fk e.1, ?_⟩
            by_cases hz : e.1 ∈ Z
            · rw [skv_in.mpr hz]
              walk_at "dgo"
              exact hR' (decide_eq_false (fun q => q hz))
            · rw [show (dlook (skv Z) (fkD e.1)).isSome = false from Bool.eq_false_iff.mpr fun q => hz (skv_in.mp q)]
              walk_at "dgo"
              rw [zip_maps]
              refine ⟨key_fk e.1, oAt_of (hkv_look lk.nd he) ?_⟩
              walk_at "dgo"
              exact hR (decide_eq_true hz)
          walk_at "dgo"
          refine ⟨hkv (fresh_ Z Lw), by unfold hkv fresh_; rw [List.map_map]; rfl, fun x hx => ?_, by unfold hkv; rw [List.length_map]; omega, frshD ?_⟩
          · unfold hkv at hx
            obtain ⟨e, _, rfl⟩ := List.mem_map.mp hx
            exact key_fk e.1
          have hnd2 : ((hkv (fresh_ Z Lw)).map (·.1)).Nodup := by
            rw [hkv_keys, show ((fresh_ Z Lw).map fun e => fkD e.1) = ((fresh_ Z Lw).map (·.1)).map fkD by rw [List.map_map]; rfl]
            exact List.pairwise_map.mpr (fnd.imp fun h z => h (fkD_inj z))
          rw [putAll_nodup _ _ (by rw [List.nil_append]; exact hnd2), List.nil_append]
          walk_at "dgo"
          refine ⟨by rw [List.length_map, List.length_map], ?_⟩
          have hfD : D.rod ((hkv (fresh_ Z Lw)).map (·.1)) ((hkv (fresh_ Z Lw)).map (·.2)) = hD (fresh_ Z Lw) := rfl
          rw [hfD]
          refine for_pre (fun (e : FK × List Str) => fkD e.1) (fresh_ Z Lw) (hkv_keys _) (fun pre4 σ h' => ∃ (W : List (FK × List Str)) (b12 b13 : Option D), W = fresh_ Z Lw ∧ σ = [some (D.tup [nD S.r, nD S.l, tblD S.tbl]), some (.tup (lot.map nD)), some (.tup (v1.map D.str)), some (.tup (v2.map D.str)), some (nD S.r), some (nD S.l), some (tblD S.tbl), some (colsD (othersOf S.r lot).length S.l), some (.int (M : Int)), some (hD W), some (.ref sn), some (.int (0 + (pre.length : Int))), b12, b13, some (encC (colAt v1 pre.length)), some (encC (colAt v2 pre.length)), b16, b17, b18, b19, b20, none, none, none] ∧ h' = put h sn (.dct (skv (Z ++ pre4.map (·.1))))) ⟨_, _, _, rfl, rfl, by rw [List.map_nil, List.append_nil]⟩ (fun _ _ _ _ => trivial) ?_ ?_
          · rintro pre4 e post4 σ h9 e4 ⟨W4, c12, c13, rfl, rfl, rfl⟩ nx4 hnx4
            have he : e ∈ fresh_ Z Lw := by rw [e4]; exact List.mem_append_right _ List.mem_cons_self
            have hez : e.1 ∉ Z := of_decide_eq_true (List.mem_filter.mp he).2
            have p4 : pre4.length ≤ 512 := by
              have := congrArg List.length e4
              rw [List.length_append] at this
              omega
            have hep : e.1 ∉ Z ++ pre4.map (·.1) := fun z => by
              rcases List.mem_append.mp z with q | q
              · exact hez q
              · have nd4 := fnd
                rw [e4, List.map_append, List.nodup_append] at nd4
                exact nd4.2.2 _ q _ (List.mem_map.mpr ⟨e, List.mem_cons_self, rfl⟩) rfl
            walk_at "dgo"
            refine dctAt_of put_same ⟨⟨key_fk e.1, by unfold skv; rw [List.length_map, List.length_append, List.length_map]; omega⟩, ?_⟩
            have hnone : dlook (skv (Z ++ pre4.map (·.1))) (fkD e.1) = none := by
              cases z : dlook (skv (Z ++ pre4.map (·.1))) (fkD e.1) with
              | none => rfl
              | some y => exact absurd (skv_in.mp (by rw [z]; rfl)) hep
            rw [put_put, dput_new hnone]
            refine hnx4 _ _ ⟨fresh_ Z Lw, _, _, rfl, rfl, ?_⟩
            unfold skv
            rw [List.map_append (l₁ := pre4), ← List.append_assoc, List.map_append (l₂ := List.map _ [e])]
            rfl
          · rintro σ h9 ⟨W4, c12, c13, rfl, rfl, rfl⟩
            have hfD2 : hD (fresh_ Z Lw) = D.rod ((hkv (fresh_ Z Lw)).map (·.1)) ((hkv (fresh_ Z Lw)).map (·.2)) := rfl
            walk_at "dgo"
            rw [hfD2]
            walk_at "dgo"
            rw [zip_maps, show (hkv (fresh_ Z Lw)).length = (fresh_ Z Lw).length from List.length_map _]
            by_cases hn : fresh_ Z Lw = []
            · rw [hn, decide_eq_true (show (([] : List (FK × List Str)).length : Int) = 0 from rfl)]
              walk_at "dgo"
              exact Wk.to (hsub _) (qn (r1 hn))
            · have : 0 < (fresh_ Z Lw).length := List.length_pos_iff.mpr hn
              rw [decide_eq_false (show ¬ ((fresh_ Z Lw).length : Int) = 0 by omega)]
              walk_at "dgo"
              exact hnx _ _ ⟨fresh_ Z Lw, _, _, _, _, _, _, _, _, _, _, _, rfl, rfl, by rw [el]; exact r2 hn⟩
        · have f' := fok_early f lk (by omega)
          rw [decide_eq_false (show ¬ (M : Int) ≤ 0 + (pre.length : Int) by omega)]
          walk_at "dgo"
          rw [zip_maps, show (hkv Lw).length = Lw.length from List.length_map _]
          by_cases hn : Lw = []
          · rw [decide_eq_true (show (Lw.length : Int) = 0 by rw [hn]; rfl)]
            walk_at "dgo"
            exact Wk.to (hsub _) (qn (early_none f' (by omega) hMM hn))
          · have : 0 < Lw.length := List.length_pos_iff.mpr hn
            rw [decide_eq_false (show ¬ (Lw.length : Int) = 0 by omega)]
            walk_at "dgo"
            exact hnx _ _ ⟨Lw, Z, _, _, _, _, _, _, _, _, _, _, rfl, rfl, by rw [el]; exact f'⟩
    · walk_at "dgo"
      by_cases hMp : M ≤ pre.length
      · rw [decide_eq_true (show (0 : Int) + (pre.length : Int) ≥ (M : Int) by omega)]
        walk_at "dgo"
        have hhD : hD W = .rod ((hkv W).map (·.1)) ((hkv W).map (·.2)) := rfl
        rw [hhD]
        walk_at "dgo"
        refine ⟨by rw [List.length_map, List.length_map], ?_⟩
        refine for_pre (fun (e : FK × List Str) => fkD e.1) W (hkv_keys W) (fun pre2 σ h' => ∃ a12 : Option D, σ = [some (D.tup [nD S.r, nD S.l, tblD S.tbl]), some (.tup (lot.map nD)), some (.tup (v1.map D.str)), some (.tup (v2.map D.str)), some (nD S.r), some (nD S.l), some (tblD S.tbl), some (colsD (othersOf S.r lot).length S.l), some (.int (M : Int)), some (hD W), some (.ref sn), some (.int (0 + (pre.length : Int))), a12, a13, a14, a15, a16, a17, a18, a19, a20, none, none, none] ∧ h' = put h sn (.dct (skv Z)) ∧ ∀ e ∈ pre2, flg S e.1.1 = flg S e.1.2.1) ⟨a12, rfl, rfl, fun e he => by cases he⟩ (fun _ _ _ _ => trivial) ?_ ?_
        · rintro pre2 e post2 σ h8 e2 ⟨b12, rfl, rfl, hfl⟩ nx2 hnx2
          have he : e ∈ W := by rw [e2]; exact List.mem_append_right _ List.mem_cons_self
          have lr := f.h.lr _ (List.mem_map.mpr ⟨e, he, rfl⟩)
          obtain ⟨q1, q2, q3, q4⟩ := lr_ok ok w1 w2 lr
          rw [show fkD e.1 = .tup [nD e.1.1, nD e.1.2.1, .tup (e.1.2.2.map nD)] from rfl]
          unfold tblD
          walk_at "dgo"
          refine oAt_of (tbl_at S.tbl q1) ?_
          rw [show rowD (S.tbl.getD e.1.1 (false, [])) = .tup [.bl (flg S e.1.1), .tup ((S.tbl.getD e.1.1 (false, [])).2.map nD)] from rfl]
          walk_at "dgo"
          refine oAt_of (tbl_at S.tbl q2) ?_
          rw [show rowD (S.tbl.getD e.1.2.1 (false, [])) = .tup [.bl (flg S e.1.2.1), .tup ((S.tbl.getD e.1.2.1 (false, [])).2.map nD)] from rfl]
          walk_at "dgo"
          by_cases hu : flg S e.1.1 = flg S e.1.2.1
          · rw [decide_eq_true hu]
            walk_at "dgo"
            refine hnx2 _ _ ⟨_, rfl, rfl, fun e' he' => ?_⟩
            rcases List.mem_append.mp he' with q | q
            · exact hfl e' q
            · rw [List.mem_singleton.mp q]; exact hu
          · rw [decide_eq_false hu]
            have hhD : hD W = .rod ((hkv W).map (·.1)) ((hkv W).map (·.2)) := rfl
            rw [hhD]
            walk_at "dgo"
            rw [zip_maps]
            exact ⟨key_fk e.1, oAt_of (hkv_look f.h.nd he) (Wk.to (hsub _) (qs _ ⟨pre.length, e.1, by omega, lr, hu⟩))⟩
        · rintro σ h8 ⟨b12, rfl, rfl, hfl⟩
          exact hnx1 _ _ ⟨b12, rfl, rfl, fun _ k hk => by
            obtain ⟨e, he, rfl⟩ := List.mem_map.mp hk
            exact hfl e he⟩
      · rw [decide_eq_false (show ¬ (0 : Int) + (pre.length : Int) ≥ (M : Int) by omega)]
        walk_at "dgo"
        exact hnx1 _ _ ⟨a12, rfl, rfl, fun z => absurd z hMp⟩
  · rintro σ h6 ⟨W, Z, a11, a12, a13, a14, a15, a16, a17, a18, a19, a20, rfl, rfl, f⟩
    rw [List.length_range] at f
    exact (fok_end ok lo w1 w2 f).elim
end
end My
namespace My
open PySem PySem.Spec PyProof.Rows L2 DL
theorem ab_at {l i : Nat} (l2 : l ≤ 2) (h : i < l) : ∃ c, atI ("ab" : Str).cps.toList (i : Int) = some c ∧ c ∈ (sg l).drop 1 := by
  rcases (show l = 1 ∧ i = 0 ∨ l = 2 ∧ i = 0 ∨ l = 2 ∧ i = 1 by omega) with ⟨rfl, rfl⟩ | ⟨rfl, rfl⟩ | ⟨rfl, rfl⟩
  · exact ⟨97, by rw [atI_n]; decide +kernel, by decide⟩
  · exact ⟨97, by rw [atI_n]; decide +kernel, by decide⟩
  · exact ⟨98, by rw [atI_n]; decide +kernel, by decide⟩
theorem ab_len : ("ab" : Str).length ≤ sizeLine := by decide +kernel
theorem sum_ones (cs : List Nat) : ((cs.map chS).map (·.length)).sum = cs.length := by
  induction cs with
  | nil => rfl
  | cons c r ih => rw [List.map_cons, List.map_cons, List.sum_cons, ih, List.length_cons, Nat.add_comm]; rfl
theorem paired_chars {l : Nat} {ys : List Nat} {ds : List D} (h : Paired (fun _ d => ∃ c, d = D.str (chS c) ∧ c ∈ (sg l).drop 1) ys ds) : ∃ cs : List Nat, ds = (cs.map chS).map .str ∧ cs.length = ys.length ∧ ∀ c ∈ cs, c ∈ (sg l).drop 1 := by
  induction h with
  | nil => exact ⟨[], rfl, rfl, fun c hc => by cases hc⟩
  | cons e _ ih =>
    obtain ⟨c, rfl, hc⟩ := e
    obtain ⟨cs, rfl, h1, h2⟩ := ih
    refine ⟨c :: cs, rfl, by rw [List.length_cons, List.length_cons, h1], fun d hd => ?_⟩
    rcases List.mem_cons.mp hd with rfl | hd
    · exact hc
    · exact h2 d hd
def sp_wdrawn_words : DSp := sp4 fun a b c d h P => ∃ (p : Addr) (r l m : Nat), a = .ref p ∧ b = nD r ∧ c = nD l ∧ d = nD m ∧ r ≤ 4 ∧ 1 ≤ l ∧ l ≤ 2 ∧ m ≤ 60 ∧ PoolIn h p ∧ ∀ ws, Wds r l ws → P (wordsD ws) h
section
variable {P : Program} {w : World} {K : PySem.W.Frag} {mg : Str → Option Value} {base : Heap}
theorem ok_wdrawn_words (T : Txt K mg) : DFn P w K mg base 2 T.a_wdrawn_words T.d_wdrawn_words ["pool", "rows", "letters", "most"] sp_wdrawn_words := by
  refine dfn4 T.F_wdrawn_words sc_wdrawn_words rfl (fun cdv A outer s H E hr => ⟨_, (dss_cons (ds_set (i := 4) sc_wdrawn_words.nd rfl (by first | exact Or.inl rfl | exact Or.inr rfl) (de_lst da_nil))
  (dss_cons (ds_for PassesOwn.never rfl (di_range1 (by rfl) T.b_range (da_cons (de_var 1) da_nil)) (dg_name (i := 5) sc_wdrawn_words.nd rfl (by first | exact Or.inl rfl | exact Or.inr rfl))
  (dss_one (ds_expr (de_ml PySem.F.slot_list_append PySem.F.type_list_append mt_dAppend (de_var 4) (da_cons (de_ms PySem.F.slot_str_join PySem.F.type_str_join mt_dJoin de_str (de_frz (de_lc (own := [("place", 6)]) rfl sc_wdrawn_words.nd (di_range1 (by rfl) T.b_range (da_cons (de_call (ok_wdraw T) (hr.mono (by decide)) (by rfl) T.m_wdraw T.F_wdraw.kp T.b_wdraw (da_cons (de_var 0) (da_cons (de_op op_dAdd (de_var 3) de_int) da_nil))) da_nil)) (blkOk_by (N := ["pool", "rows", "letters", "most", "found", "row", "place"]) (sc := defScope s_wdrawn_words) (own := [("place", 6)]) (by decide +kernel)) (by decide) (fun _ _ _ _ _ => (dg_name (i := 6) sc_wdrawn_words.nd rfl (by first | exact Or.inl rfl | exact Or.inr rfl))) (fun _ _ _ _ _ => dts_nil) (fun _ _ _ _ _ => (de_ix de_str (de_call (ok_wdraw T) (hr.mono (by decide)) (by rfl) T.m_wdraw T.F_wdraw.kp T.b_wdraw (da_cons (de_var 0) (da_cons (de_var 2) da_nil)))))))) da_nil)))))
  (dss_one (ds_ret (de_callTy call_dTupOf (by rfl) T.b_tuple (by decide +kernel) (da_cons (de_var 4) da_nil)))))), fun p0 p1 p2 p3 h Q q => ?_⟩)
  rw [show dstart ["pool", "rows", "letters", "most", "found", "row", "place"] [p0, p1, p2, p3] = [some p0, some p1, some p2, some p3, none, none, none] from rfl]
  obtain ⟨p, r, l, m, rfl, rfl, rfl, rfl, r4, l1, l2, m60, pool, q⟩ := q
  have line81 := line81
  walk_at "dgo"
  intro F nF
  refine ⟨by omega, ?_⟩
  rw [Int.toNat_natCast]
  refine for_pre (fun (i : Nat) => .int ((0 : Int) + i)) (List.range r) rfl (fun pre σ h' => ∃ (ws : List Str) (v5 : Option D), σ = [some (.ref p), some (nD r), some (nD l), some (nD m), some (.ref F), v5, none] ∧ h' = put h F (.lst (ws.map .str)) ∧ Wds pre.length l ws) ⟨[], none, rfl, rfl, rfl, (fun z hz => by cases hz), (fun z hz => by cases hz)⟩ (fun _ _ _ _ => trivial) ?_ ?_
  · rintro pre i post σ h1 e ⟨ws, v5, rfl, rfl, w1, w2, w3⟩ nx hnx
    have hpl : pre.length < r := by
      have := congrArg List.length e
      rw [List.length_range, List.length_append, List.length_cons] at this
      omega
    walk_at "dgo"
    refine lstAt_of put_same ?_
    refine ⟨p, m + 1, rfl, by congr 1, by omega, by omega, pool.sub (Sub.new nF), fun n hn => ?_⟩
    walk_at "dgo"
    refine ⟨by omega, ?_⟩
    rw [Int.toNat_natCast]
    refine lcRA (fun (i : Nat) => .int ((0 : Int) + i)) (List.range n) (fun _ d => ∃ c, d = D.str (chS c) ∧ c ∈ (sg l).drop 1) rfl (fun _ _ => trivial) (fun j hj h2 s2 R hR => ?_) (by rw [List.length_range]; omega) (fun ds hf => ?_)
    · walk_at "dgo"
      refine ⟨p, l, rfl, rfl, by omega, by omega, pool.sub ((Sub.new nF).trans s2), fun d hd => ?_⟩
      walk_at "dgo"
      obtain ⟨c, ec, hc⟩ := ab_at l2 hd
      refine ⟨ab_len, ?_⟩
      rw [ec]
      exact hR _ ⟨c, rfl, hc⟩
    · obtain ⟨cs, rfl, hcl, hcs⟩ := paired_chars hf
      rw [List.length_range] at hcl
      walk_at "dgo"
      refine ⟨_, allS_map _, by rw [sum_ones, List.length_map]; show _ + _ * 0 ≤ _; omega, lstAt_of put_same ⟨by rw [List.length_map]; omega, ?_⟩⟩
      refine hnx _ _ ⟨ws ++ [Txt.join "" (cs.map chS)], _, rfl, by rw [put_put, List.map_append]; rfl, by rw [List.length_append, List.length_append, w1]; rfl, fun z hz => ?_, fun z hz => ?_⟩
      · rcases List.mem_append.mp hz with hz | hz
        · exact w2 z hz
        · rw [List.mem_singleton.mp hz, join_chars]; exact hcs
      · rcases List.mem_append.mp hz with hz | hz
        · exact w3 z hz
        · rw [List.mem_singleton.mp hz]
          show Array.size _ ≤ 60
          rw [← Array.length_toList, join_chars]
          omega
  · rintro σ h1 ⟨ws, v5, rfl, rfl, wd⟩
    rw [List.length_range] at wd
    walk_at "dgo"
    exact lstAt_of put_same (Wk.to (Sub.new nF) (q ws wd))
end
end My
namespace My
open PySem PySem.Spec PyProof.Rows L2 DL
/-- the words of all rows -/
def allW (r : Nat) (lot : List Nat) (v u : List Str) : List Str := (List.range r).map fun x => if x ∈ lot then v.getD (lot.idxOf x) "" else u.getD ((othersOf r lot).idxOf x) ""
theorem pairs_strs (xs : List Nat) (cs : List Str) : pairs (xs.map nD) (cs.map D.str) = (xs.zip cs).map fun p => pairT (nD p.1, D.str p.2) := by
  unfold pairs
  rw [List.zipWith_map, List.map_zip_eq_zipWith]
  rfl
theorem zipW_look {xs : List Nat} {cs : List Str} {x : Nat} (hl : xs.length = cs.length) (hx : x ∈ xs) : dlook ((xs.zip cs).map fun p => (nD p.1, D.str p.2)) (nD x) = some (D.str (cs.getD (xs.idxOf x) "")) := by
  induction xs generalizing cs with
  | nil => cases hx
  | cons y r ih =>
    cases cs with
    | nil => simp at hl
    | cons c q =>
      rw [List.zip_cons_cons, List.map_cons, dlook_cons]
      by_cases e : y = x
      · subst e
        rw [if_pos rfl, List.idxOf_cons_self]
        rfl
      · rw [if_neg (show ¬ ((nD y, D.str c) : D × D).1 = nD x from fun z => e (nD_inj z))]
        rw [ih (by simpa using hl) ((List.mem_cons.mp hx).resolve_left fun z => e z.symm), List.idxOf_cons, show (y == x) = false from beq_false_of_ne e]
        rfl
theorem zipW_none {xs : List Nat} {cs : List Str} {x : Nat} (hx : x ∉ xs) : dlook ((xs.zip cs).map fun p => (nD p.1, D.str p.2)) (nD x) = none := by
  refine dlook_none fun z => ?_
  rw [List.map_map] at z
  obtain ⟨p, hp, e⟩ := List.mem_map.mp z
  have e2 : p.1 = x := nD_inj e
  exact hx (e2 ▸ (List.of_mem_zip hp).1)
theorem words_look {r : Nat} {lot : List Nat} {v u : List Str} (hl : lot.length = v.length) (hd : (othersOf r lot).length = u.length) {x : Nat} (hx : x < r) :
    dlook ((lot.zip v).map (fun p => (nD p.1, D.str p.2)) ++ ((othersOf r lot).zip u).map fun p => (nD p.1, D.str p.2)) (nD x) = some (D.str (if x ∈ lot then v.getD (lot.idxOf x) "" else u.getD ((othersOf r lot).idxOf x) "")) := by
  rw [dlook_append]
  by_cases h : x ∈ lot
  · rw [if_pos h, zipW_look hl h]; rfl
  · rw [if_neg h, zipW_none h, zipW_look hd (List.mem_filter.mpr ⟨List.mem_range.mpr hx, decide_eq_true h⟩)]; rfl
theorem words_nodup {r : Nat} {lot : List Nat} {v u : List Str} (nd : lot.Nodup) : (((lot.zip v).map (fun p => (nD p.1, D.str p.2)) ++ ((othersOf r lot).zip u).map fun p => (nD p.1, D.str p.2)).map (·.1)).Nodup := by
  have inj : ∀ {xs : List Nat}, xs.Nodup → (xs.map nD).Nodup := fun {xs} h => List.pairwise_map.mpr (h.imp fun h e => h (nD_inj e))
  have sub : ∀ (xs : List Nat) (cs : List Str), ((xs.zip cs).map fun p => (nD p.1, D.str p.2)).map (·.1) = ((xs.zip cs).map (·.1)).map nD := fun xs cs => by rw [List.map_map, List.map_map]; rfl
  have fst : ∀ (xs : List Nat) (cs : List Str), xs.Nodup → ((xs.zip cs).map (·.1)).Nodup := fun xs cs h => h.sublist (zip_sub xs cs)
  rw [List.map_append, sub, sub, List.nodup_append]
  refine ⟨inj (fst _ _ nd), inj (fst _ _ (others_nd r lot)), fun a ha b hb e => ?_⟩
  obtain ⟨x, hx, rfl⟩ := List.mem_map.mp ha
  obtain ⟨y, hy, rfl⟩ := List.mem_map.mp hb
  have exy := nD_inj e
  subst exy
  obtain ⟨p, hp, rfl⟩ := List.mem_map.mp hx
  obtain ⟨p2, hp2, e2⟩ := List.mem_map.mp hy
  have h1 := (List.of_mem_zip hp).1
  have h2 := (List.of_mem_zip hp2).1
  rw [e2] at h2
  exact (of_decide_eq_true (List.mem_filter.mp h2).2) h1
def sp_wall_words : DSp := sp4 fun a b c d h P => ∃ (r : Nat) (lot : List Nat) (v u : List Str), a = nD r ∧ b = lotD lot ∧ c = wordsD v ∧ d = wordsD u ∧ r ≤ 4 ∧ LotOk r lot ∧ lot.length = v.length ∧ (othersOf r lot).length = u.length ∧ P (wordsD (allW r lot v u)) h
section
variable {P : Program} {w : World} {K : PySem.W.Frag} {mg : Str → Option Value} {base : Heap}
theorem ok_wall_words (T : Txt K mg) : DFn P w K mg base 2 T.a_wall_words T.d_wall_words ["rows", "lot", "told", "other"] sp_wall_words := by
  refine dfn4 T.F_wall_words sc_wall_words rfl (fun cdv A outer s H E hr => ⟨_, (dss_cons (ds_set (i := 4) sc_wall_words.nd rfl (by first | exact Or.inl rfl | exact Or.inr rfl) (de_frz (de_callTy (call_dDictOf hr.units rfl) (by rfl) T.b_dict (by decide +kernel) (da_cons (de_pur (de_op op_dAdd (de_listZip rfl (by rfl) T.b_list (by rfl) T.b_zip (da_cons (de_var 1) (da_cons (de_var 2) da_nil))) (de_listZip rfl (by rfl) T.b_list (by rfl) T.b_zip (da_cons (de_call (ok_wothers T) (hr.mono (by decide)) (by rfl) T.m_wothers T.F_wothers.kp T.b_wothers (da_cons (de_var 0) (da_cons (de_var 1) da_nil))) (da_cons (de_var 3) da_nil))))) da_nil))))
  (dss_one (ds_ret (de_callTy call_dTupOf (by rfl) T.b_tuple (by decide +kernel) (da_cons (de_frz (de_lc (own := [("row", 5)]) rfl sc_wall_words.nd (di_range1 (by rfl) T.b_range (da_cons (de_var 0) da_nil)) (blkOk_by (N := ["rows", "lot", "told", "other", "found", "row"]) (sc := defScope s_wall_words) (own := [("row", 5)]) (by decide +kernel)) (by decide) (fun _ _ _ _ _ => (dg_name (i := 5) sc_wall_words.nd rfl (by first | exact Or.inl rfl | exact Or.inr rfl))) (fun _ _ _ _ _ => dts_nil) (fun _ _ _ _ _ => (de_ixD hr.units (de_var 4) (de_var 5))))) da_nil))))), fun p0 p1 p2 p3 h Q q => ?_⟩)
  rw [show dstart ["rows", "lot", "told", "other", "found", "row"] [p0, p1, p2, p3] = [some p0, some p1, some p2, some p3, none, none] from rfl]
  obtain ⟨r, lot, c, d, rfl, rfl, rfl, rfl, r4, lo, hcl, hdl, q⟩ := q
  have line81 := line81
  have hol := others_len lo
  have hlt : lotD lot = .tup (lot.map nD) := rfl
  unfold wordsD at q ⊢
  rw [hlt]
  walk_at "dgo"
  refine ⟨?_, fun q1 nq1 => ?_⟩
  · rw [pairs_length, List.length_map, List.length_map]; omega
  refine ⟨r, lot, rfl, rfl, by omega, by omega, ?_⟩
  unfold lotD
  walk_at "dgo"
  refine ⟨?_, fun q2 nq2 => ?_⟩
  · rw [pairs_length, List.length_map, List.length_map]; omega
  have nq12 : q1 ≠ q2 := ne_none put_same nq2
  refine lstAt_of (by rw [put_ne nq12]; exact put_same) (lstAt_of put_same ⟨?_, frsh ⟨(Sub.new nq1).trans (Sub.new nq2), ?_⟩⟩)
  · rw [pairs_length, pairs_length, List.length_map, List.length_map, List.length_map, List.length_map]; omega
  walk_at "dgo"
  refine ⟨(lot.zip c).map (fun p => (nD p.1, D.str p.2)) ++ ((othersOf r lot).zip d).map fun p => (nD p.1, D.str p.2), ?_, ?_, ?_, frshD ?_⟩
  · rw [pairs_strs, pairs_strs, List.map_append, List.map_map, List.map_map]; rfl
  · intro x hx
    rcases List.mem_append.mp hx with hx | hx
    · obtain ⟨y, _, rfl⟩ := List.mem_map.mp hx; exact key_nat _
    · obtain ⟨y, _, rfl⟩ := List.mem_map.mp hx; exact key_nat _
  · rw [List.length_append, List.length_map, List.length_map, List.length_zip, List.length_zip]; omega
  rw [putAll_nodup _ _ (by rw [List.nil_append]; exact words_nodup (lo.asc.imp fun h => Nat.ne_of_lt h)), List.nil_append]
  walk_at "dgo"
  refine ⟨by omega, ?_⟩
  rw [Int.toNat_natCast]
  refine lcA (fun (i : Nat) => .int ((0 : Int) + i)) (List.range r) (fun x => D.str (if x ∈ lot then c.getD (lot.idxOf x) "" else d.getD ((othersOf r lot).idxOf x) "")) rfl (fun _ _ => trivial) (fun x hx h4 s4 R hR => ?_) (by rw [List.length_range]; omega) ?_
  · walk_at "dgo"
    rw [zip_maps, Int.zero_add]
    refine ⟨key_nat x, ?_⟩
    rw [show D.int ((x : Nat) : Int) = nD x from rfl, words_look hcl hdl (List.mem_range.mp hx)]
    exact hR
  walk_at "dgo"
  unfold allW at q
  rw [List.map_map] at q
  exact Wk.of q
end
end My
namespace My
open PySem PySem.Spec PyProof.Rows L2 DL
theorem ab_signs : ∀ l : Nat, 1 ≤ l → l ≤ 2 → (cutS ("ab" : Str) none (some (l : Int))).cps.toList = (sg l).drop 1 := by
  intro l h1 h2
  rcases (show l = 1 ∨ l = 2 by omega) with rfl | rfl <;> decide +kernel
def sp_ware_words : DSp := sp3 fun a b c h P => ∃ (m l : Nat) (ws : List Str), a = nD m ∧ b = nD l ∧ c = wordsD ws ∧ m ≤ 80 ∧ 1 ≤ l ∧ l ≤ 2 ∧ ws.length = m ∧ WordsOk l ws ∧ (∀ z ∈ ws, z.length ≤ 40000) ∧ P (.bl true) h
section
variable {P : Program} {w : World} {K : PySem.W.Frag} {mg : Str → Option Value} {base : Heap}
theorem ok_ware_words (T : Txt K mg) : DFn P w K mg base 1 T.a_ware_words T.d_ware_words ["many", "letters", "thing"] sp_ware_words := by
  refine dfn3 T.F_ware_words sc_ware_words rfl (fun cdv A outer s H E hr => ⟨_, (dss_cons (ds_if (dw_or (dt_not (dt_val (de_callB call_dIsi (by rfl) T.b_isinstance (by decide +kernel) (da_cons (de_var 2) (da_cons (de_gTy (n := "tuple") (by rfl) T.b_tuple (by decide +kernel)) da_nil))))) (dw_or (dt_cmp (op_dNeA hr.units) (de_callB call_dLen (by rfl) T.b_len (by decide +kernel) (da_cons (de_var 2) da_nil)) (de_var 0) (nomark _)) (dw_or1 (dt_not (dt_val (de_callB (call_dAll rfl) (by rfl) T.b_all (by decide +kernel) (da_cons (de_frz (de_lc (own := [("word", 3)]) rfl sc_ware_words.nd (di_tup (de_var 2)) (blkOk_by (N := ["many", "letters", "thing", "word", "sign"]) (sc := defScope s_ware_words) (own := [("word", 3)]) (by decide +kernel)) (by decide) (fun _ _ _ _ _ => (dg_name (i := 3) sc_ware_words.nd rfl (by first | exact Or.inl rfl | exact Or.inr rfl))) (fun _ _ _ _ _ => dts_nil) (fun _ _ _ _ _ => (de_callB call_dIsi (by rfl) T.b_isinstance (by decide +kernel) (da_cons (de_var 3) (da_cons (de_gTy (n := "str") (by rfl) T.b_str (by decide +kernel)) da_nil)))))) da_nil))))))).dt
  (dss_one (ds_ret de_bl))
  dss_nil)
  (dss_one (ds_ret (de_callB (call_dAll rfl) (by rfl) T.b_all (by decide +kernel) (da_cons (de_frz (de_lc (own := [("word", 3)]) rfl sc_ware_words.nd (di_tup (de_var 2)) (blkOk_by (N := ["many", "letters", "thing", "word", "sign"]) (sc := defScope s_ware_words) (own := [("word", 3)]) (by decide +kernel)) (by decide) (fun _ _ _ _ _ => (dg_name (i := 3) sc_ware_words.nd rfl (by first | exact Or.inl rfl | exact Or.inr rfl))) (fun _ _ _ _ _ => dts_nil) (fun _ _ _ _ _ => (de_callB (call_dAll rfl) (by rfl) T.b_all (by decide +kernel) (da_cons (de_frz (de_lc (own := [("sign", 4)]) rfl sc_ware_words.nd (di_str (de_var 3)) (blkOk_by (N := ["many", "letters", "thing", "word", "sign"]) (own := [("sign", 4)]) (by rfl)) (by decide) (fun _ _ _ _ _ => (dg_name (i := 4) sc_ware_words.nd rfl (by first | exact Or.inl rfl | exact Or.inr rfl))) (fun _ _ _ _ _ => dts_nil) (fun _ _ _ _ _ => (de_cmp (op_dInA hr.units) (de_var 4) (de_frz (de_sl de_str do_none (do_some (de_var 1)))) (by rfl))))) da_nil))))) da_nil))))), fun p0 p1 p2 h Q q => ?_⟩)
  rw [show dstart ["many", "letters", "thing", "word", "sign"] [p0, p1, p2] = [some p0, some p1, some p2, none, none] from rfl]
  obtain ⟨m, l, ws, rfl, rfl, rfl, m8, l1, l2, hl, wo, w4, q⟩ := q
  have line81 := line81
  have line60 : 60000 ≤ sizeLine := by rw [sizeLine_eq]; decide
  unfold wordsD
  walk_at "dgo"
  rw [List.length_map, decide_eq_true (show (ws.length : Int) = (m : Int) by omega)]
  walk_at "dgo"
  refine lcA D.str ws (fun _ => .bl true) rfl (fun _ _ => trivial) (fun z hz h1 s1 R hR => ?_) (by omega) ?_
  · walk_at "dgo"
    exact hR
  walk_at "dgo"
  refine lcA D.str ws (fun _ => .bl true) rfl (fun _ _ => trivial) (fun z hz h1 s1 R hR => ?_) (by omega) ?_
  · have h4 := w4 z hz
    walk_at "dgo"
    unfold DL.signs
    refine lcA (fun c => .str ⟨#[c]⟩) z.cps.toList (fun _ => .bl true) rfl (fun _ _ => trivial) (fun c hc h2 s2 R2 hR2 => ?_) (by rw [Array.length_toList]; show z.length ≤ _; omega) ?_
    · walk_at "dgo"
      refine ⟨ab_len, ?_⟩
      walk_at "dgo"
      rw [inStr_one, ab_signs l l1 l2, decide_eq_true (wo z hz c hc)]
      exact hR2
    walk_at "dgo"
    exact hR
  walk_at "dgo"
  exact Wk.of q
end
end My
namespace My
open PySem PySem.Spec PyProof.Rows L2 DL
/-- the letters of one row of the told columns: what is gone stays gone -/
theorem rch_rows {S : Qs} {lot w1 w2 : List Nat} {l : List Nat} {n : Nd} (r : Rch S lot w1 w2 l n) (i : Nat) (hi : i < (othersOf S.r lot).length) (okn : ∀ {l : List Nat} {n : Nd}, Rch S lot w1 w2 l n → n.2.2.2 ≤ (othG S lot).headD 0) :
    ∃ xs g, l.map (fun c => ((othC S lot).getD c []).getD i 45) = xs ++ List.replicate g 45 ∧ (∀ x ∈ xs, x ≠ 45) ∧ (0 < g → n.2.2.2.testBit i = true) := by
  induction r with
  | start => exact ⟨[], 0, rfl, (fun x hx => by cases hx), fun h => absurd h (Nat.lt_irrefl _)⟩
  | @step l n c r hc ih =>
    obtain ⟨xs, g, e, hx, hg⟩ := ih
    have hcl : c < (othC S lot).length := by rw [← othG_len]; exact opens_lt hc
    have hlen := oc_len (oc_at hcl)
    have bit : (gn2 S lot c).testBit i = decide (((othC S lot).getD c []).getD i 45 = 45) := by
      rw [gn2_eq hcl, goneN_bit _ _ rfl, decide_eq_decide]
      exact getD_some45 (by rw [hlen]; exact hi)
    have sub : n.2.2.2.testBit i = true → (gn2 S lot c).testBit i = true := by
      intro q
      have z := (opn_goes (okn r) hcl).mp hc
      unfold goesC at z
      rw [bit]
      exact decide_eq_true (of_decide_eq_true (List.all_eq_true.mp z i (List.mem_filter.mpr ⟨List.mem_range.mpr hi, q⟩)))
    rw [List.map_append, e, List.map_cons, List.map_nil]
    by_cases h45 : ((othC S lot).getD c []).getD i 45 = 45
    · rw [h45]
      refine ⟨xs, g + 1, by rw [List.append_assoc, List.replicate_succ'], hx, fun _ => ?_⟩
      show (gn2 S lot c).testBit i = true
      rw [bit]; exact decide_eq_true h45
    · have g0 : g = 0 := by
        rcases Nat.eq_zero_or_pos g with q | q
        · exact q
        · have := sub (hg q)
          rw [bit] at this
          exact absurd (of_decide_eq_true this) h45
      subst g0
      refine ⟨xs ++ [((othC S lot).getD c []).getD i 45], 0, by simp, fun x hx' => ?_, fun h => absurd h (Nat.lt_irrefl _)⟩
      rcases List.mem_append.mp hx' with h | h
      · exact hx x h
      · rw [List.mem_singleton.mp h]; exact h45
theorem filter_ne {xs : List Nat} {g : Nat} (hx : ∀ x ∈ xs, x ≠ 45) : (xs ++ List.replicate g 45).filter (fun x => decide (x ≠ 45)) = xs := by
  rw [List.filter_append, List.filter_eq_self.mpr (fun x h => decide_eq_true (hx x h)), List.filter_eq_nil_iff.mpr, List.append_nil]
  intro x h
  rw [List.eq_of_mem_replicate h]
  decide
theorem getD_rep {xs : List Nat} {g p : Nat} : (xs ++ List.replicate g 45).getD p 45 = xs.getD p 45 := by
  rw [List.getD_eq_getElem?_getD, List.getD_eq_getElem?_getD]
  rcases Nat.lt_or_ge p xs.length with h | h
  · rw [List.getElem?_append_left h]
  · rw [List.getElem?_append_right h, List.getElem?_eq_none h, List.getElem?_replicate]
    split <;> rfl
/-- the told words -/
def toldW (S : Qs) (lot : List Nat) (l : List Nat) : List Str := wordsIn (l.map fun n => (othC S lot).getD n []) (othersOf S.r lot).length
section
variable {S : Qs} {lot : List Nat} {v1 v2 : List Str}
theorem told_word (ok : S.Ok) (h1 : Wds lot.length S.l v1) (h2 : Wds lot.length S.l v2) {l : List Nat} {n : Nd} (r : Rch S lot (numsOf S.l v1) (numsOf S.l v2) l n) {i : Nat} (hi : i < (othersOf S.r lot).length) :
    ∃ xs g, (toldW S lot l)[i]? = some (mkS xs) ∧ l.map (fun c => ((othC S lot).getD c []).getD i 45) = xs ++ List.replicate g 45 ∧ (∀ x ∈ xs, x ≠ 45) := by
  obtain ⟨xs, g, e, hx, _⟩ := rch_rows r i hi fun r => (rch_lr ok h1 h2 r).1.tr.e
  refine ⟨xs, g, ?_, e, hx⟩
  unfold toldW wordsIn
  rw [List.getElem?_map, List.getElem?_range hi]
  show some (mkS _) = some (mkS _)
  congr 2
  rw [List.filter_map, List.map_map]
  have : ∀ L : List Nat, ((L.filter ((fun c : List Nat => decide (c.getD i 45 ≠ 45)) ∘ fun n => (othC S lot).getD n [])).map ((fun c : List Nat => c.getD i 45) ∘ fun n => (othC S lot).getD n [])) = (L.map fun c => ((othC S lot).getD c []).getD i 45).filter fun x => decide (x ≠ 45) := fun L => by
    rw [List.filter_map]; rfl
  rw [this, e, filter_ne hx]
theorem told_len {l : List Nat} : (toldW S lot l).length = (othersOf S.r lot).length := by unfold toldW wordsIn; rw [List.length_map, List.length_range]
theorem told_col (ok : S.Ok) (h1 : Wds lot.length S.l v1) (h2 : Wds lot.length S.l v2) {l : List Nat} {n : Nd} (r : Rch S lot (numsOf S.l v1) (numsOf S.l v2) l n) {p : Nat} (hp : p < l.length) : colAt (toldW S lot l) p = (othC S lot).getD (l.getD p 0) [] := by
  have hc : l.getD p 0 < (othC S lot).length := by
    rw [List.getD_eq_getElem?_getD, List.getElem?_eq_getElem hp]
    exact rch_opn r _ (List.getElem_mem hp)
  have hlen := oc_len (oc_at hc)
  refine List.ext_getElem? fun i => ?_
  unfold colAt
  rw [List.getElem?_map]
  rcases Nat.lt_or_ge i (othersOf S.r lot).length with hi | hi
  · obtain ⟨xs, g, e1, e2, _⟩ := told_word ok h1 h2 r hi
    rw [e1]
    have e3 : (l.map fun c => ((othC S lot).getD c []).getD i 45).getD p 45 = xs.getD p 45 := by rw [e2, getD_rep]
    rw [List.getD_eq_getElem?_getD, List.getElem?_map, List.getElem?_eq_getElem hp] at e3
    have e4 : ((othC S lot).getD (l.getD p 0) []).getD i 45 = xs.getD p 45 := by
      rw [← e3, List.getD_eq_getElem?_getD (l := l), List.getElem?_eq_getElem hp]; rfl
    show some ((mkS xs).cps.toList.getD p 45) = _
    have e5 : (mkS xs).cps.toList = xs := rfl
    rw [e5, ← e4, List.getD_eq_getElem?_getD (l := (othC S lot).getD (l.getD p 0) []), List.getElem?_eq_getElem (by rw [hlen]; exact hi)]
    rfl
  · rw [List.getElem?_eq_none (by rw [told_len]; exact hi), List.getElem?_eq_none (by rw [hlen]; exact hi)]
    rfl
theorem told_ok (ok : S.Ok) (h1 : Wds lot.length S.l v1) (h2 : Wds lot.length S.l v2) {l : List Nat} {n : Nd} (r : Rch S lot (numsOf S.l v1) (numsOf S.l v2) l n) : WordsOk S.l (toldW S lot l) ∧ ∀ z ∈ toldW S lot l, z.length ≤ l.length := by
  have each : ∀ z ∈ toldW S lot l, (∀ c ∈ z.cps.toList, c ∈ (sg S.l).drop 1) ∧ z.length ≤ l.length := fun z hz => by
    obtain ⟨i, hi⟩ := List.mem_iff_getElem?.mp hz
    have hil := (List.getElem?_eq_some_iff.mp hi).1
    rw [told_len] at hil
    obtain ⟨xs, g, e1, e2, hx⟩ := told_word ok h1 h2 r hil
    rw [hi] at e1
    have ez : z = mkS xs := Option.some.inj e1
    subst ez
    refine ⟨fun c hc => ?_, ?_⟩
    · have hcx : c ∈ xs := hc
      have hm : c ∈ l.map (fun c => ((othC S lot).getD c []).getD i 45) := by rw [e2]; exact List.mem_append_left _ hcx
      obtain ⟨j, hj, rfl⟩ := List.mem_map.mp hm
      have hjl := rch_opn r _ hj
      have hcm := oc_at hjl
      have hin : ((othC S lot).getD j []).getD i 45 ∈ sg S.l := by
        have hl2 : i < ((othC S lot).getD j []).length := by rw [oc_len hcm]; exact hil
        rw [List.getD_eq_getElem?_getD, List.getElem?_eq_getElem hl2]
        exact (cols_mem.mp hcm).2 _ (List.getElem_mem hl2)
      have h45 := hx _ hcx
      have l1 := ok.l1
      have l2 := ok.l2
      rcases (show S.l = 1 ∨ S.l = 2 by omega) with e | e <;> rw [e] at hin ⊢
      · have : ((othC S lot).getD j []).getD i 45 ∈ [45, 97] := hin
        rcases List.mem_cons.mp this with q | q
        · exact absurd q h45
        · exact q
      · have : ((othC S lot).getD j []).getD i 45 ∈ [45, 97, 98] := hin
        rcases List.mem_cons.mp this with q | q
        · exact absurd q h45
        · exact q
    · have hl := congrArg List.length e2
      rw [List.length_map, List.length_append] at hl
      show xs.toArray.size ≤ _
      rw [List.size_toArray]
      omega
  exact ⟨fun z hz => (each z hz).1, fun z hz => (each z hz).2⟩
theorem getD_len {r : Nat} (v u : List Str) (p : Nat) : colAt (allW r lot v u) p = placeC r lot (colAt v p) (colAt u p) := by
  unfold colAt allW placeC
  rw [List.map_map]
  refine List.map_congr_left fun x _ => ?_
  have e45 : (fun z : Str => z.cps.toList.getD p 45) "" = 45 := by
    show ([] : List Nat).getD p 45 = 45
    rfl
  have get : ∀ (ys : List Str) (i : Nat), (ys.getD i "").cps.toList.getD p 45 = (ys.map fun z => z.cps.toList.getD p 45).getD i 45 := fun ys i => by
    have this : (ys.map fun z => z.cps.toList.getD p 45).getD i 45 = (ys.getD i "").cps.toList.getD p 45 := getD_mapD (fun z : Str => z.cps.toList.getD p 45) "" ys i
    exact this.symm
  unfold sgnAt
  show (if x ∈ lot then v.getD (lot.idxOf x) "" else u.getD ((othersOf r lot).idxOf x) "").cps.toList.getD p 45 = _
  split
  · exact get v _
  · exact get u _
theorem told_st (ok : S.Ok) (h1 : Wds lot.length S.l v1) (h2 : Wds lot.length S.l v2) {l : List Nat} {n : Nd} (r : Rch S lot (numsOf S.l v1) (numsOf S.l v2) l n) :
    ∀ u : List Str, (∀ p, p < l.length → colAt u p = (othC S lot).getD (l.getD p 0) []) → stAt S (allW S.r lot v1 u) l.length = n.2.1 ∧ stAt S (allW S.r lot v2 u) l.length = n.2.2.1 := by
  have hw := whl_eq S.l v1 v2
  induction r with
  | start => exact fun u _ => ⟨rfl, rfl⟩
  | @step l n c r hc ih =>
    intro u hu
    obtain ⟨i1, i2⟩ := ih u fun p hp => by
      rw [hu p (by rw [List.length_append]; omega), List.getD_eq_getElem?_getD (l := l ++ [c]), List.getElem?_append_left hp, ← List.getD_eq_getElem?_getD]
    obtain ⟨q1, q2, q3⟩ := rch_lr ok h1 h2 r
    have hcl : c < (othC S lot).length := by rw [← othG_len]; exact opens_lt hc
    have e0 := hu l.length (by rw [List.length_append, List.length_singleton]; omega)
    rw [List.getD_eq_getElem?_getD (l := l ++ [c]), List.getElem?_append_right (Nat.le_refl _), Nat.sub_self] at e0
    have e1 := suc_one (pl := l.length) ok h1 q1.tr.a (show maxLen v1 ≤ whl (numsOf S.l v1) (numsOf S.l v2) by omega) hcl
    have e2 := suc_one (pl := l.length) ok h2 q1.tr.b (show maxLen v2 ≤ whl (numsOf S.l v1) (numsOf S.l v2) by omega) hcl
    rw [← q2] at e1 e2
    rw [List.length_append, List.length_singleton]
    refine ⟨?_, ?_⟩
    · show lead S (stAt S (allW S.r lot v1 u) l.length) (colAt (allW S.r lot v1 u) l.length) = ld S lot n.2.1 _ c
      rw [i1, getD_len, e0, e1]
      rfl
    · show lead S (stAt S (allW S.r lot v2 u) l.length) (colAt (allW S.r lot v2 u) l.length) = ld S lot n.2.2.1 _ c
      rw [i2, getD_len, e0, e2]
      rfl
theorem val_gone (b : Nat) : ∀ n : Nat, val b (List.replicate n 45) = 0
  | 0 => rfl
  | n + 1 => by
    rw [List.replicate_succ', val_snoc, val_gone b n]
    show 0 * b + dig 45 = 0
    rw [Nat.zero_mul]
    rfl
theorem st_stay (S : Qs) (ws : List Str) : ∀ k, stAt S ws (maxLen ws + k) = stAt S ws (maxLen ws)
  | 0 => rfl
  | k + 1 => by
    show lead S (stAt S ws (maxLen ws + k)) (colAt ws (maxLen ws + k)) = _
    rw [st_stay S ws k, colAt_gone (Nat.le_add_right _ _)]
    unfold lead
    rw [if_pos (val_gone _ _)]
theorem ans_at (S : Qs) (ws : List Str) {p : Nat} (h : maxLen ws ≤ p) : ansOf S ws = flg S (stAt S ws p) := by
  obtain ⟨k, rfl⟩ := Nat.exists_eq_add_of_le h
  rw [st_stay]
  rfl
theorem allW_mem {r : Nat} {v u : List Str} {z : Str} (h : z ∈ allW r lot v u) : z ∈ v ∨ z ∈ u ∨ z = "" := by
  obtain ⟨x, _, rfl⟩ := List.mem_map.mp h
  have get : ∀ (ys : List Str) (i : Nat), ys.getD i "" ∈ ys ∨ ys.getD i "" = "" := fun ys i => by
    rw [List.getD_eq_getElem?_getD]
    cases e : ys[i]? with
    | none => exact .inr rfl
    | some s => exact .inl (List.mem_of_getElem? e)
  split
  · rcases get v (lot.idxOf x) with h | h
    · exact .inl h
    · exact .inr (.inr h)
  · rcases get u ((othersOf r lot).idxOf x) with h | h
    · exact .inr (.inl h)
    · exact .inr (.inr h)
theorem allW_ok {r : Nat} {v u : List Str} {l m : Nat} (h1 : WordsOk l v) (h2 : WordsOk l u) (s1 : ∀ z ∈ v, z.length ≤ m) (s2 : ∀ z ∈ u, z.length ≤ m) : (allW r lot v u).length = r ∧ WordsOk l (allW r lot v u) ∧ ∀ z ∈ allW r lot v u, z.length ≤ m := by
  refine ⟨by unfold allW; rw [List.length_map, List.length_range], fun z hz => ?_, fun z hz => ?_⟩
  · rcases allW_mem hz with h | h | h
    · exact h1 z h
    · exact h2 z h
    · subst h; intro c hc; cases hc
  · rcases allW_mem hz with h | h | h
    · exact s1 z h
    · exact s2 z h
    · subst h; exact Nat.zero_le _
/-- THE TOLD WORDS part the words -/
theorem told_parts (ok : S.Ok) (h1 : Wds lot.length S.l v1) (h2 : Wds lot.length S.l v2) {l : List Nat} {n : Nd} (r : Rch S lot (numsOf S.l v1) (numsOf S.l v2) l n) (g : isGoal S (numsOf S.l v1) (numsOf S.l v2) n) :
    ansOf S (allW S.r lot v1 (toldW S lot l)) ≠ ansOf S (allW S.r lot v2 (toldW S lot l)) := by
  have hw := whl_eq S.l v1 v2
  obtain ⟨q1, q2, q3⟩ := rch_lr ok h1 h2 r
  obtain ⟨g1, g2⟩ := g
  obtain ⟨t1, t2⟩ := told_ok ok h1 h2 r
  obtain ⟨s1, s2⟩ := told_st ok h1 h2 r (toldW S lot l) fun p hp => told_col ok h1 h2 r hp
  have m1 : maxLen (allW S.r lot v1 (toldW S lot l)) ≤ l.length := maxLen_le (allW_ok h1.ok t1 (fun z hz => by have := le_maxLen hz; omega) t2).2.2
  have m2 : maxLen (allW S.r lot v2 (toldW S lot l)) ≤ l.length := maxLen_le (allW_ok h2.ok t1 (fun z hz => by have := le_maxLen hz; omega) t2).2.2
  rw [ans_at S _ m1, ans_at S _ m2, s1, s2]
  exact g2
end
abbrev sp_law : DSp := lawSp
section
variable {P : Program} {w : World} {K : PySem.W.Frag} {mg : Str → Option Value} {base : Heap}
theorem ok_law (T : Txt K mg) : DFn P w K mg base 10 T.a_law T.d_law ["script"] sp_law := by
  refine dfn_ok T.F_law sc_law (fun ds h Q q => by obtain ⟨_, rfl, _⟩ := q; rfl) (fun cdv A outer s H E hr => ⟨_, (dss_cons (ds_set (i := 1) sc_law.nd rfl (by first | exact Or.inl rfl | exact Or.inr rfl) (de_call (ok_wpool T) (hr.mono (by decide)) (by rfl) T.m_wpool T.F_wpool.kp T.b_wpool (da_cons (de_var 0) da_nil)))
  (dss_cons (ds_for PassesOwn.never rfl (di_range1 (by rfl) T.b_range (da_cons de_int da_nil)) (dg_name (i := 2) sc_law.nd rfl (by first | exact Or.inl rfl | exact Or.inr rfl))
  (dss_cons (ds_set (i := 3) sc_law.nd rfl (by first | exact Or.inl rfl | exact Or.inr rfl) (de_call (ok_wspec T) (hr.mono (by decide)) (by rfl) T.m_wspec T.F_wspec.kp T.b_wspec (da_cons (de_var 1) (da_cons de_int da_nil))))
  (dss_cons (ds_set (i := 4) sc_law.nd rfl (by first | exact Or.inl rfl | exact Or.inr rfl) (de_call (ok_wquestion T) (hr.mono (by decide)) (by rfl) T.m_wquestion T.F_wquestion.kp T.b_wquestion (da_cons (de_var 3) da_nil)))
  (dss_cons (ds_asg (de_var 3) (dg_tup (n := 3) rfl (dgs_cons (dg_name (i := 5) sc_law.nd rfl (by first | exact Or.inl rfl | exact Or.inr rfl)) (dgs_cons (dg_name (i := 6) sc_law.nd rfl (by first | exact Or.inl rfl | exact Or.inr rfl)) (dgs_cons (dg_name (i := 7) sc_law.nd rfl (by first | exact Or.inl rfl | exact Or.inr rfl)) dgs_nil)))))
  (dss_one (ds_for PassesOwn.never rfl (di_range1 (by rfl) T.b_range (da_cons de_int da_nil)) (dg_name (i := 8) sc_law.nd rfl (by first | exact Or.inl rfl | exact Or.inr rfl))
  (dss_cons (ds_set (i := 9) sc_law.nd rfl (by first | exact Or.inl rfl | exact Or.inr rfl) (de_call (ok_wlot T) (hr.mono (by decide)) (by rfl) T.m_wlot T.F_wlot.kp T.b_wlot (da_cons (de_var 1) (da_cons (de_var 5) da_nil))))
  (dss_cons (ds_set (i := 10) sc_law.nd rfl (by first | exact Or.inl rfl | exact Or.inr rfl) (de_call (ok_wdrawn_words T) (hr.mono (by decide)) (by rfl) T.m_wdrawn_words T.F_wdrawn_words.kp T.b_wdrawn_words (da_cons (de_var 1) (da_cons (de_callB call_dLen (by rfl) T.b_len (by decide +kernel) (da_cons (de_var 9) da_nil)) (da_cons (de_var 6) (da_cons de_int da_nil))))))
  (dss_cons (ds_set (i := 11) sc_law.nd rfl (by first | exact Or.inl rfl | exact Or.inr rfl) (de_call (ok_wdrawn_words T) (hr.mono (by decide)) (by rfl) T.m_wdrawn_words T.F_wdrawn_words.kp T.b_wdrawn_words (da_cons (de_var 1) (da_cons (de_callB call_dLen (by rfl) T.b_len (by decide +kernel) (da_cons (de_var 9) da_nil)) (da_cons (de_var 6) (da_cons de_int da_nil))))))
  (dss_cons (ds_set (i := 12) sc_law.nd rfl (by first | exact Or.inl rfl | exact Or.inr rfl) (de_call (ok_wparted T) (hr.mono (by decide)) (by rfl) T.m_wparted T.F_wparted.kp T.b_wparted (da_cons (de_var 3) (da_cons (de_var 9) (da_cons (de_var 10) (da_cons (de_var 11) da_nil))))))
  (dss_cons (ds_for PassesOwn.never rfl (di_list (de_frz (de_lst (da_cons (de_tup (da_cons (de_var 10) (da_cons (de_var 11) da_nil))) (da_cons (de_tup (da_cons (de_var 11) (da_cons (de_var 10) da_nil))) da_nil))))) (dg_tup (n := 2) rfl (dgs_cons (dg_name (i := 13) sc_law.nd rfl (by first | exact Or.inl rfl | exact Or.inr rfl)) (dgs_cons (dg_name (i := 14) sc_law.nd rfl (by first | exact Or.inl rfl | exact Or.inr rfl)) dgs_nil)))
  (dss_cons (ds_set (i := 15) sc_law.nd rfl (by first | exact Or.inl rfl | exact Or.inr rfl) (de_call (ok_parted T) (hr.mono (by decide)) (by rfl) T.m_parted T.F_parted.kp T.b_parted (da_cons (de_var 4) (da_cons (de_var 9) (da_cons (de_var 13) (da_cons (de_var 14) da_nil))))))
  (dss_cons (ds_if (dw_or (dt_cmp (op_dNeA hr.units) (de_cmp op_dIs (de_var 15) de_non (nomark _)) (de_cmp op_dIs (de_var 12) de_non (nomark _)) (nomark _)) (dw_or1 (dt_cmp (op_dNeA hr.units) (de_call (ok_parted T) (hr.mono (by decide)) (by rfl) T.m_parted T.F_parted.kp T.b_parted (da_cons (de_var 4) (da_cons (de_var 9) (da_cons (de_var 13) (da_cons (de_var 14) da_nil))))) (de_var 15) (nomark _)))).dt
  (dss_one (ds_ret de_bl))
  dss_nil)
  (dss_one (ds_if (dt_cmp op_dIsNot (de_var 15) de_non (nomark _))
  (dss_cons (ds_if (dt_not (dt_val (de_call (ok_ware_words T) (hr.mono (by decide)) (by rfl) T.m_ware_words T.F_ware_words.kp T.b_ware_words (da_cons (de_op op_dSub (de_var 5) (de_callB call_dLen (by rfl) T.b_len (by decide +kernel) (da_cons (de_var 9) da_nil))) (da_cons (de_var 6) (da_cons (de_var 15) da_nil))))))
  (dss_one (ds_ret de_bl))
  dss_nil)
  (dss_cons (ds_frz (by rfl) (ds_setLc (i := 16) (own := [("words", 17)]) rfl sc_law.nd rfl rfl (sw_true rfl rfl rfl (by decide +kernel)) (di_list (de_frz (de_lst (da_cons (de_var 13) (da_cons (de_var 14) da_nil))))) (blkOk_by (N := ["script", "pool", "turn", "spec", "question", "rows", "letters", "table", "again", "lot", "first", "second", "due", "one", "two", "told", "answers", "words"]) (sc := defScope s_law) (own := [("words", 17)]) (by decide +kernel)) (by decide) (fun _ _ _ _ _ => (dg_name (i := 17) sc_law.nd rfl (by first | exact Or.inl rfl | exact Or.inr rfl))) (fun _ _ _ _ _ => dts_nil) (fun _ _ _ _ _ => (de_call (ok_wanswer T) (hr.mono (by decide)) (by rfl) T.m_wanswer T.F_wanswer.kp T.b_wanswer (da_cons (de_var 3) (da_cons (de_call (ok_wall_words T) (hr.mono (by decide)) (by rfl) T.m_wall_words T.F_wall_words.kp T.b_wall_words (da_cons (de_var 5) (da_cons (de_var 9) (da_cons (de_var 17) (da_cons (de_var 15) da_nil))))) da_nil))))))
  (dss_one (ds_if (dt_cmp (op_dEqA hr.units) (de_ix (de_var 16) de_int) (de_ix (de_var 16) de_int) (nomark _))
  (dss_one (ds_ret de_bl))
  dss_nil))))
  dss_nil)))))
  (dss_one (ds_if (dt_cmp op_dIsNot (de_call (ok_parted T) (hr.mono (by decide)) (by rfl) T.m_parted T.F_parted.kp T.b_parted (da_cons (de_var 4) (da_cons (de_var 9) (da_cons (de_var 10) (da_cons (de_var 10) da_nil))))) de_non (nomark _))
  (dss_one (ds_ret de_bl))
  dss_nil)))))))))))))
  (dss_one (ds_ret de_bl)))), fun ds h Q q => ?_⟩)
  obtain ⟨ns, rfl, hl, q⟩ := q
  have line81 := line81
  have line60 : 60000 ≤ sizeLine := by rw [sizeLine_eq]; decide
  rw [show dstart ["script", "pool", "turn", "spec", "question", "rows", "letters", "table", "again", "lot", "first", "second", "due", "one", "two", "told", "answers", "words"] [D.rol (ns.map .int)] = [some (.rol (ns.map .int)), none, none, none, none, none, none, none, none, none, none, none, none, none, none, none, none, none] from rfl]
  walk_at "dgo"
  refine ⟨ns, rfl, hl, fun p np => ?_⟩
  walk_at "dgo"
  refine ⟨by decide, ?_⟩
  refine for_pre (fun (i : Nat) => .int ((0 : Int) + i)) (List.range 3) rfl (fun pre σ h' => ∃ a2 a3 a4 a5 a6 a7 a8 a9 a10 a11 a12 a13 a14 a15 a16 : Option D, σ = [some (.rol (ns.map .int)), some (.ref p), a2, a3, a4, a5, a6, a7, a8, a9, a10, a11, a12, a13, a14, a15, a16, none] ∧ PoolIn h' p) ⟨none, none, none, none, none, none, none, none, none, none, none, none, none, none, none, rfl, put_same⟩ (fun _ _ _ _ => trivial) ?_ ?_
  · rintro pre i post σ h1 e ⟨a2, a3, a4, a5, a6, a7, a8, a9, a10, a11, a12, a13, a14, a15, a16, rfl, pool1⟩ nx hnx
    walk_at "dgo"
    refine ⟨p, 3, rfl, rfl, by decide, by decide, pool1, fun S ok rm tl => ?_⟩
    have r2 := ok.r2
    have r4 := ok.r4
    have l1 := ok.l1
    have l2 := ok.l2
    walk_at "dgo"
    refine ⟨S, rfl, ok, fun k nk => ?_⟩
    have qa : QAt T.Cm (put h1 k (.absd (KeptOk T.Cm S k))) S k := ⟨ok, put_same⟩
    have pool : PoolIn (put h1 k (.absd (KeptOk T.Cm S k))) p := pool1.sub (Sub.new nk)
    unfold specD
    walk_at "dgo"
    refine ⟨by decide, ?_⟩
    generalize put h1 k (.absd (KeptOk T.Cm S k)) = h2 at *
    refine for_pre (fun (i : Nat) => .int ((0 : Int) + i)) (List.range 3) rfl (fun pre σ h' => ∃ a8 a9 a10 a11 a12 a13 a14 a15 a16 : Option D, σ = [some (.rol (ns.map .int)), some (.ref p), some (.int (0 + (i : Int))), some (.tup [nD S.r, nD S.l, tblD S.tbl]), some (qV T.Cm S k), some (nD S.r), some (nD S.l), some (tblD S.tbl), a8, a9, a10, a11, a12, a13, a14, a15, a16, none] ∧ h' = h2) ⟨a8, a9, a10, a11, a12, a13, a14, a15, a16, rfl, rfl⟩ (fun _ _ _ _ => trivial) ?_ ?_
    · rintro pre2 j post2 σ h3 e2 ⟨a8, a9, a10, a11, a12, a13, a14, a15, a16, rfl, rfl⟩ nx2 hnx2
      walk_at "dgo"
      refine ⟨p, S.r, rfl, rfl, r2, r4, pool, fun lot lo => ?_⟩
      have lone := lo.ne
      have lall := lo.all
      have hol := others_len lo
      have hlot : lotD lot = .tup (lot.map nD) := rfl
      rw [hlot]
      walk_at "dgo"
      rw [List.length_map]
      refine ⟨p, lot.length, S.l, 5, rfl, rfl, rfl, rfl, by omega, l1, l2, by decide, pool, fun v1 w1 => ?_⟩
      refine ⟨p, lot.length, S.l, 5, rfl, rfl, rfl, rfl, by omega, l1, l2, by decide, pool, fun v2 w2 => ?_⟩
      refine ⟨S, lot, v1, v2, rfl, rfl, rfl, rfl, ok, lo, w1, w2, fun d hd => ?_⟩
      walk_at "dgo"
      refine frsh ?_
      walk_at "dgo"
      refine for_pre (fun (x : List Str × List Str) => .tup [wordsD x.1, wordsD x.2]) [(v1, v2), (v2, v1)] rfl (fun pre σ h' => ∃ a13 a14 a15 a16 : Option D, σ = [some (.rol (ns.map .int)), some (.ref p), some (.int (0 + (i : Int))), some (.tup [nD S.r, nD S.l, tblD S.tbl]), some (qV T.Cm S k), some (nD S.r), some (nD S.l), some (tblD S.tbl), some (.int (0 + (j : Int))), some (.tup (lot.map nD)), some (wordsD v1), some (wordsD v2), some d, a13, a14, a15, a16, none] ∧ h' = h3) ⟨a13, a14, a15, a16, rfl, rfl⟩ (fun _ _ _ _ => trivial) ?_ ?_
      · rintro pre3 xy post3 σ h4 e3 ⟨a13, a14, a15, a16, rfl, rfl⟩ nx3 hnx3
        have hxy : xy ∈ [(v1, v2), (v2, v1)] := by rw [e3]; exact List.mem_append_right _ List.mem_cons_self
        obtain ⟨x, y⟩ := xy
        have facts : Wds lot.length S.l x ∧ Wds lot.length S.l y ∧ (Wins S lot x y ↔ Wins S lot v1 v2) := by
          rcases List.mem_cons.mp hxy with z | z
          · cases z; exact ⟨w1, w2, Iff.rfl⟩
          · rcases List.mem_cons.mp z with z | z
            · cases z; exact ⟨w2, w1, ⟨wins_swap, wins_swap⟩⟩
            · cases z
        obtain ⟨wx, wy, hwin⟩ := facts
        walk_at "dgo"
        refine ⟨S, k, lot, x, y, rfl, rfl, rfl, rfl, qa, lo, wx, wy, ?_⟩
        rcases parted_some ok wx wy with ⟨e0, nw⟩ | ⟨l, n, e0, r, g, yw⟩
        · rw [e0]
          obtain rfl : d = .non := by
            rcases hd with ⟨_, w⟩ | ⟨z, _⟩
            · exact absurd (hwin.mpr w) nw
            · exact z
          unfold toldD
          walk_at "dgo"
          refine ⟨S, k, lot, x, y, rfl, rfl, rfl, rfl, qa, lo, wx, wy, ?_⟩
          rw [e0]
          unfold toldD
          walk_at "dgo"
          exact hnx3 _ _ ⟨_, _, _, _, rfl, rfl⟩
        · rw [e0]
          obtain ⟨xs, rfl⟩ : ∃ xs, d = .tup xs := by
            rcases hd with ⟨z, _⟩ | ⟨_, w⟩
            · exact z
            · exact absurd (hwin.mp yw) w
          rw [show toldD S lot (some l) = wordsD (toldW S lot l) from rfl]
          obtain ⟨t1, t2⟩ := told_ok ok wx wy r
          have tl : (toldW S lot l).length = (othersOf S.r lot).length := told_len
          have t4 : ∀ z ∈ toldW S lot l, z.length ≤ 40000 := fun z hz => Nat.le_trans (t2 z hz) (parted_le ok lo (nums_lt ok wx) (nums_lt ok wy) (nums_len wx) (nums_len wy) e0).2
          have cmp : Cmp (.tup ((toldW S lot l).map D.str)) := cmp_strs fun z hz => by
            show (z.cps.all fun c => decide (c < 1114112)) = true
            rw [← Array.all_toList, List.all_eq_true]
            exact fun c hc => decide_eq_true (sg_small (List.mem_of_mem_drop (t1 z hz c hc)))
          have hlx := wx.len
          have hly := wy.len
          unfold wordsD
          walk_at "dgo"
          refine ⟨S, k, lot, x, y, rfl, rfl, rfl, rfl, qa, lo, wx, wy, ?_⟩
          rw [e0]
          rw [show toldD S lot (some l) = .tup ((toldW S lot l).map D.str) from rfl]
          refine ⟨⟨cmp, cmp⟩, ?_⟩
          rw [decide_eq_true rfl]
          walk_at "dgo"
          refine ⟨(othersOf S.r lot).length, S.l, toldW S lot l, (by rw [List.length_map]; show D.int _ = D.int _; congr 1; omega), rfl, rfl, by omega, l1, l2, tl, t1, t4, ?_⟩
          walk_at "dgo"
          refine frsh ?_
          walk_at "dgo"
          refine lcA wordsD [x, y] (fun w => .bl (ansOf S (allW S.r lot w (toldW S lot l)))) rfl (fun _ _ => trivial) (fun w hw h5 s5 R hR => ?_) (by show 2 ≤ sizeLine; omega) ?_
          · have ww : Wds lot.length S.l w := by
              rcases List.mem_cons.mp hw with z | z
              · rw [z]; exact wx
              · rw [List.mem_singleton.mp z]; exact wy
            have wl := ww.len
            obtain ⟨k1, k2, k3⟩ := allW_ok (r := S.r) (lot := lot) (m := 60000) ww.ok t1 (fun z hz => Nat.le_trans (ww.short z hz) (by decide)) (fun z hz => Nat.le_trans (t4 z hz) (by decide))
            walk_at "dgo"
            refine ⟨S.r, lot, w, toldW S lot l, rfl, rfl, rfl, rfl, r4, lo, wl.symm, tl.symm, ?_⟩
            exact ⟨S, _, rfl, rfl, ok, k1, k2, k3, hR⟩
          walk_at "dgo"
          rw [decide_eq_false (told_parts ok wx wy r g)]
          walk_at "dgo"
          exact hnx3 _ _ ⟨_, _, _, _, rfl, rfl⟩
      · rintro σ h4 ⟨a13, a14, a15, a16, rfl, rfl⟩
        walk_at "dgo"
        refine ⟨S, k, lot, v1, v1, rfl, rfl, rfl, rfl, qa, lo, w1, w1, ?_⟩
        rcases parted_some ok w1 w1 with ⟨e0, nw⟩ | ⟨l, n, e0, r, g, yw⟩
        · rw [e0]
          unfold toldD
          walk_at "dgo"
          exact hnx2 _ _ ⟨_, _, _, _, _, _, _, _, _, rfl, rfl⟩
        · exact absurd yw wins_same
    · rintro σ h3 ⟨a8, a9, a10, a11, a12, a13, a14, a15, a16, rfl, rfl⟩
      exact hnx _ _ ⟨_, _, _, _, _, _, _, _, _, _, _, _, _, _, _, rfl, pool⟩
  · rintro σ h1 ⟨a2, a3, a4, a5, a6, a7, a8, a9, a10, a11, a12, a13, a14, a15, a16, rfl, pool1⟩
    walk_at "dgo"
    exact Wk.of (q _)
end
end My
namespace My
open PySem PySem.Spec PyProof.Rows L2 DL
theorem all_mk {l : PySem.W.OpenLaw} {w : World} {K : PySem.W.Frag} {h : Heap} {mg : Str → Option Value} {fa : Addr} (X : K.In h) (G : h.Ns mainGlobals mg) (hfa : mg "law" = some (.ref fa))
    {C_Question : Addr}
    {C_Split : Addr}
    {f_is_integer : Addr} {od_is_integer an_is_integer : Option Addr} {sl_is_integer : Array (Option Value)} {oc_is_integer kV_is_integer dc_is_integer pm_is_integer cd_is_integer ct_is_integer : Value}
    {f_is_within : Addr} {od_is_within an_is_within : Option Addr} {sl_is_within : Array (Option Value)} {oc_is_within kV_is_within dc_is_within pm_is_within cd_is_within ct_is_within : Value}
    {f_is_pair : Addr} {od_is_pair an_is_pair : Option Addr} {sl_is_pair : Array (Option Value)} {oc_is_pair kV_is_pair dc_is_pair pm_is_pair cd_is_pair ct_is_pair : Value}
    {f_is_string_of : Addr} {od_is_string_of an_is_string_of : Option Addr} {sl_is_string_of : Array (Option Value)} {oc_is_string_of kV_is_string_of dc_is_string_of pm_is_string_of cd_is_string_of ct_is_string_of : Value}
    {f_is_letters : Addr} {od_is_letters an_is_letters : Option Addr} {sl_is_letters : Array (Option Value)} {oc_is_letters kV_is_letters dc_is_letters pm_is_letters cd_is_letters ct_is_letters : Value}
    {f_is_ascending : Addr} {od_is_ascending an_is_ascending : Option Addr} {sl_is_ascending : Array (Option Value)} {oc_is_ascending kV_is_ascending dc_is_ascending pm_is_ascending cd_is_ascending ct_is_ascending : Value}
    {f_columns : Addr} {od_columns an_columns : Option Addr} {sl_columns : Array (Option Value)} {oc_columns kV_columns dc_columns pm_columns cd_columns ct_columns : Value}
    {f_readings : Addr} {od_readings an_readings : Option Addr} {sl_readings : Array (Option Value)} {oc_readings kV_readings dc_readings pm_readings cd_readings ct_readings : Value}
    {f_is_standing : Addr} {od_is_standing an_is_standing : Option Addr} {sl_is_standing : Array (Option Value)} {oc_is_standing kV_is_standing dc_is_standing pm_is_standing cd_is_standing ct_is_standing : Value}
    {f_Question_init : Addr} {od_Question_init an_Question_init : Option Addr} {sl_Question_init : Array (Option Value)} {oc_Question_init kV_Question_init dc_Question_init pm_Question_init cd_Question_init ct_Question_init : Value}
    {f_numbers_of : Addr} {od_numbers_of an_numbers_of : Option Addr} {sl_numbers_of : Array (Option Value)} {oc_numbers_of kV_numbers_of dc_numbers_of pm_numbers_of cd_numbers_of ct_numbers_of : Value}
    {f_read : Addr} {od_read an_read : Option Addr} {sl_read : Array (Option Value)} {oc_read kV_read dc_read pm_read cd_read ct_read : Value}
    {f_are_words : Addr} {od_are_words an_are_words : Option Addr} {sl_are_words : Array (Option Value)} {oc_are_words kV_are_words dc_are_words pm_are_words cd_are_words ct_are_words : Value}
    {f_check_words : Addr} {od_check_words an_check_words : Option Addr} {sl_check_words : Array (Option Value)} {oc_check_words kV_check_words dc_check_words pm_check_words cd_check_words ct_check_words : Value}
    {f_gone_in : Addr} {od_gone_in an_gone_in : Option Addr} {sl_gone_in : Array (Option Value)} {oc_gone_in kV_gone_in dc_gone_in pm_gone_in cd_gone_in ct_gone_in : Value}
    {f_Split_open_columns : Addr} {od_Split_open_columns an_Split_open_columns : Option Addr} {sl_Split_open_columns : Array (Option Value)} {oc_Split_open_columns kV_Split_open_columns dc_Split_open_columns pm_Split_open_columns cd_Split_open_columns ct_Split_open_columns : Value}
    {f_Split_leads_of : Addr} {od_Split_leads_of an_Split_leads_of : Option Addr} {sl_Split_leads_of : Array (Option Value)} {oc_Split_leads_of kV_Split_leads_of dc_Split_leads_of pm_Split_leads_of cd_Split_leads_of ct_Split_leads_of : Value}
    {f_Split_after : Addr} {od_Split_after an_Split_after : Option Addr} {sl_Split_after : Array (Option Value)} {oc_Split_after kV_Split_after dc_Split_after pm_Split_after cd_Split_after ct_Split_after : Value}
    {f_Split_meets : Addr} {od_Split_meets an_Split_meets : Option Addr} {sl_Split_meets : Array (Option Value)} {oc_Split_meets kV_Split_meets dc_Split_meets pm_Split_meets cd_Split_meets ct_Split_meets : Value}
    {f_Split_unlike_ones : Addr} {od_Split_unlike_ones an_Split_unlike_ones : Option Addr} {sl_Split_unlike_ones : Array (Option Value)} {oc_Split_unlike_ones kV_Split_unlike_ones dc_Split_unlike_ones pm_Split_unlike_ones cd_Split_unlike_ones ct_Split_unlike_ones : Value}
    {f_Split_goals_of : Addr} {od_Split_goals_of an_Split_goals_of : Option Addr} {sl_Split_goals_of : Array (Option Value)} {oc_Split_goals_of kV_Split_goals_of dc_Split_goals_of pm_Split_goals_of cd_Split_goals_of ct_Split_goals_of : Value}
    {f_Split_can_part : Addr} {od_Split_can_part an_Split_can_part : Option Addr} {sl_Split_can_part : Array (Option Value)} {oc_Split_can_part kV_Split_can_part dc_Split_can_part pm_Split_can_part cd_Split_can_part ct_Split_can_part : Value}
    {f_Split_partable_pairs : Addr} {od_Split_partable_pairs an_Split_partable_pairs : Option Addr} {sl_Split_partable_pairs : Array (Option Value)} {oc_Split_partable_pairs kV_Split_partable_pairs dc_Split_partable_pairs pm_Split_partable_pairs cd_Split_partable_pairs ct_Split_partable_pairs : Value}
    {f_Split_init : Addr} {od_Split_init an_Split_init : Option Addr} {sl_Split_init : Array (Option Value)} {oc_Split_init kV_Split_init dc_Split_init pm_Split_init cd_Split_init ct_Split_init : Value}
    {f_words_in : Addr} {od_words_in an_words_in : Option Addr} {sl_words_in : Array (Option Value)} {oc_words_in kV_words_in dc_words_in pm_words_in cd_words_in ct_words_in : Value}
    {f_Split_numbers_of : Addr} {od_Split_numbers_of an_Split_numbers_of : Option Addr} {sl_Split_numbers_of : Array (Option Value)} {oc_Split_numbers_of kV_Split_numbers_of dc_Split_numbers_of pm_Split_numbers_of cd_Split_numbers_of ct_Split_numbers_of : Value}
    {f_Split_other_words : Addr} {od_Split_other_words an_Split_other_words : Option Addr} {sl_Split_other_words : Array (Option Value)} {oc_Split_other_words kV_Split_other_words dc_Split_other_words pm_Split_other_words cd_Split_other_words ct_Split_other_words : Value}
    {f_at_or_none : Addr} {od_at_or_none an_at_or_none : Option Addr} {sl_at_or_none : Array (Option Value)} {oc_at_or_none kV_at_or_none dc_at_or_none pm_at_or_none cd_at_or_none ct_at_or_none : Value}
    {f_way_back : Addr} {od_way_back an_way_back : Option Addr} {sl_way_back : Array (Option Value)} {oc_way_back kV_way_back dc_way_back pm_way_back cd_way_back ct_way_back : Value}
    {f_Split_parted : Addr} {od_Split_parted an_Split_parted : Option Addr} {sl_Split_parted : Array (Option Value)} {oc_Split_parted kV_Split_parted dc_Split_parted pm_Split_parted cd_Split_parted ct_Split_parted : Value}
    {f_split_of : Addr} {od_split_of an_split_of : Option Addr} {sl_split_of : Array (Option Value)} {oc_split_of kV_split_of dc_split_of pm_split_of cd_split_of ct_split_of : Value}
    {f_check_lot : Addr} {od_check_lot an_check_lot : Option Addr} {sl_check_lot : Array (Option Value)} {oc_check_lot kV_check_lot dc_check_lot pm_check_lot cd_check_lot ct_check_lot : Value}
    {f_parted : Addr} {od_parted an_parted : Option Addr} {sl_parted : Array (Option Value)} {oc_parted kV_parted dc_parted pm_parted cd_parted ct_parted : Value}
    {f_wpool : Addr} {od_wpool an_wpool : Option Addr} {sl_wpool : Array (Option Value)} {oc_wpool kV_wpool dc_wpool pm_wpool cd_wpool ct_wpool : Value}
    {f_wdraw : Addr} {od_wdraw an_wdraw : Option Addr} {sl_wdraw : Array (Option Value)} {oc_wdraw kV_wdraw dc_wdraw pm_wdraw cd_wdraw ct_wdraw : Value}
    {f_wpick : Addr} {od_wpick an_wpick : Option Addr} {sl_wpick : Array (Option Value)} {oc_wpick kV_wpick dc_wpick pm_wpick cd_wpick ct_wpick : Value}
    {f_wcolumns : Addr} {od_wcolumns an_wcolumns : Option Addr} {sl_wcolumns : Array (Option Value)} {oc_wcolumns kV_wcolumns dc_wcolumns pm_wcolumns cd_wcolumns ct_wcolumns : Value}
    {f_wlead : Addr} {od_wlead an_wlead : Option Addr} {sl_wlead : Array (Option Value)} {oc_wlead kV_wlead dc_wlead pm_wlead cd_wlead ct_wlead : Value}
    {f_wcolumn_at : Addr} {od_wcolumn_at an_wcolumn_at : Option Addr} {sl_wcolumn_at : Array (Option Value)} {oc_wcolumn_at kV_wcolumn_at dc_wcolumn_at pm_wcolumn_at cd_wcolumn_at ct_wcolumn_at : Value}
    {f_wanswer : Addr} {od_wanswer an_wanswer : Option Addr} {sl_wanswer : Array (Option Value)} {oc_wanswer kV_wanswer dc_wanswer pm_wanswer cd_wanswer ct_wanswer : Value}
    {f_wby_rows : Addr} {od_wby_rows an_wby_rows : Option Addr} {sl_wby_rows : Array (Option Value)} {oc_wby_rows kV_wby_rows dc_wby_rows pm_wby_rows cd_wby_rows ct_wby_rows : Value}
    {f_wdrawn_table : Addr} {od_wdrawn_table an_wdrawn_table : Option Addr} {sl_wdrawn_table : Array (Option Value)} {oc_wdrawn_table kV_wdrawn_table dc_wdrawn_table pm_wdrawn_table cd_wdrawn_table ct_wdrawn_table : Value}
    {f_wfirst_signs : Addr} {od_wfirst_signs an_wfirst_signs : Option Addr} {sl_wfirst_signs : Array (Option Value)} {oc_wfirst_signs kV_wfirst_signs dc_wfirst_signs pm_wfirst_signs cd_wfirst_signs ct_wfirst_signs : Value}
    {f_wcompared : Addr} {od_wcompared an_wcompared : Option Addr} {sl_wcompared : Array (Option Value)} {oc_wcompared kV_wcompared dc_wcompared pm_wcompared cd_wcompared ct_wcompared : Value}
    {f_wspec : Addr} {od_wspec an_wspec : Option Addr} {sl_wspec : Array (Option Value)} {oc_wspec kV_wspec dc_wspec pm_wspec cd_wspec ct_wspec : Value}
    {f_wquestion : Addr} {od_wquestion an_wquestion : Option Addr} {sl_wquestion : Array (Option Value)} {oc_wquestion kV_wquestion dc_wquestion pm_wquestion cd_wquestion ct_wquestion : Value}
    {f_wothers : Addr} {od_wothers an_wothers : Option Addr} {sl_wothers : Array (Option Value)} {oc_wothers kV_wothers dc_wothers pm_wothers cd_wothers ct_wothers : Value}
    {f_wlot : Addr} {od_wlot an_wlot : Option Addr} {sl_wlot : Array (Option Value)} {oc_wlot kV_wlot dc_wlot pm_wlot cd_wlot ct_wlot : Value}
    {f_wplaced : Addr} {od_wplaced an_wplaced : Option Addr} {sl_wplaced : Array (Option Value)} {oc_wplaced kV_wplaced dc_wplaced pm_wplaced cd_wplaced ct_wplaced : Value}
    {f_wgoes : Addr} {od_wgoes an_wgoes : Option Addr} {sl_wgoes : Array (Option Value)} {oc_wgoes kV_wgoes dc_wgoes pm_wgoes cd_wgoes ct_wgoes : Value}
    {f_wparted : Addr} {od_wparted an_wparted : Option Addr} {sl_wparted : Array (Option Value)} {oc_wparted kV_wparted dc_wparted pm_wparted cd_wparted ct_wparted : Value}
    {f_wdrawn_words : Addr} {od_wdrawn_words an_wdrawn_words : Option Addr} {sl_wdrawn_words : Array (Option Value)} {oc_wdrawn_words kV_wdrawn_words dc_wdrawn_words pm_wdrawn_words cd_wdrawn_words ct_wdrawn_words : Value}
    {f_wall_words : Addr} {od_wall_words an_wall_words : Option Addr} {sl_wall_words : Array (Option Value)} {oc_wall_words kV_wall_words dc_wall_words pm_wall_words cd_wall_words ct_wall_words : Value}
    {f_ware_words : Addr} {od_ware_words an_ware_words : Option Addr} {sl_ware_words : Array (Option Value)} {oc_ware_words kV_ware_words dc_ware_words pm_ware_words cd_ware_words ct_ware_words : Value}
    {f_law : Addr} {od_law an_law : Option Addr} {sl_law : Array (Option Value)} {oc_law kV_law dc_law pm_law cd_law ct_law : Value}
    {t_GONE : Tok}
    {t_LEAST_ROWS : Tok}
    {t_LETTERS : Tok}
    {t_MOST_LETTERS : Tok}
    {t_MOST_ROWS : Tok}
    {t_MOST_STANDINGS : Tok}
    (aC_Question : PySem.W.nsIn K mainGlobals "Question" = some (some (.ref C_Question)))
    (aC_Split : PySem.W.nsIn K mainGlobals "Split" = some (some (.ref C_Split)))
    (a_is_integer : PySem.W.nsIn K mainGlobals "is_integer" = some (some (.ref f_is_integer)))
    (l_is_integer : K.lookup f_is_integer = some ⟨oc_is_integer, od_is_integer, .func (PySem.W.fnOf "is_integer" "is_integer" (defArgs s_is_integer) (defBody s_is_integer) (defScope s_is_integer) .none kV_is_integer dc_is_integer pm_is_integer an_is_integer cd_is_integer ct_is_integer), sl_is_integer⟩)
    (c_is_integer : PySem.W.codeIn K cd_is_integer "is_integer" = true)
    (k_is_integer : PySem.W.keepIn K (.ref f_is_integer) = true)
    (a_is_within : PySem.W.nsIn K mainGlobals "is_within" = some (some (.ref f_is_within)))
    (l_is_within : K.lookup f_is_within = some ⟨oc_is_within, od_is_within, .func (PySem.W.fnOf "is_within" "is_within" (defArgs s_is_within) (defBody s_is_within) (defScope s_is_within) .none kV_is_within dc_is_within pm_is_within an_is_within cd_is_within ct_is_within), sl_is_within⟩)
    (c_is_within : PySem.W.codeIn K cd_is_within "is_within" = true)
    (k_is_within : PySem.W.keepIn K (.ref f_is_within) = true)
    (a_is_pair : PySem.W.nsIn K mainGlobals "is_pair" = some (some (.ref f_is_pair)))
    (l_is_pair : K.lookup f_is_pair = some ⟨oc_is_pair, od_is_pair, .func (PySem.W.fnOf "is_pair" "is_pair" (defArgs s_is_pair) (defBody s_is_pair) (defScope s_is_pair) .none kV_is_pair dc_is_pair pm_is_pair an_is_pair cd_is_pair ct_is_pair), sl_is_pair⟩)
    (c_is_pair : PySem.W.codeIn K cd_is_pair "is_pair" = true)
    (k_is_pair : PySem.W.keepIn K (.ref f_is_pair) = true)
    (a_is_string_of : PySem.W.nsIn K mainGlobals "is_string_of" = some (some (.ref f_is_string_of)))
    (l_is_string_of : K.lookup f_is_string_of = some ⟨oc_is_string_of, od_is_string_of, .func (PySem.W.fnOf "is_string_of" "is_string_of" (defArgs s_is_string_of) (defBody s_is_string_of) (defScope s_is_string_of) .none kV_is_string_of dc_is_string_of pm_is_string_of an_is_string_of cd_is_string_of ct_is_string_of), sl_is_string_of⟩)
    (c_is_string_of : PySem.W.codeIn K cd_is_string_of "is_string_of" = true)
    (k_is_string_of : PySem.W.keepIn K (.ref f_is_string_of) = true)
    (a_is_letters : PySem.W.nsIn K mainGlobals "is_letters" = some (some (.ref f_is_letters)))
    (l_is_letters : K.lookup f_is_letters = some ⟨oc_is_letters, od_is_letters, .func (PySem.W.fnOf "is_letters" "is_letters" (defArgs s_is_letters) (defBody s_is_letters) (defScope s_is_letters) .none kV_is_letters dc_is_letters pm_is_letters an_is_letters cd_is_letters ct_is_letters), sl_is_letters⟩)
    (c_is_letters : PySem.W.codeIn K cd_is_letters "is_letters" = true)
    (k_is_letters : PySem.W.keepIn K (.ref f_is_letters) = true)
    (a_is_ascending : PySem.W.nsIn K mainGlobals "is_ascending" = some (some (.ref f_is_ascending)))
    (l_is_ascending : K.lookup f_is_ascending = some ⟨oc_is_ascending, od_is_ascending, .func (PySem.W.fnOf "is_ascending" "is_ascending" (defArgs s_is_ascending) (defBody s_is_ascending) (defScope s_is_ascending) .none kV_is_ascending dc_is_ascending pm_is_ascending an_is_ascending cd_is_ascending ct_is_ascending), sl_is_ascending⟩)
    (c_is_ascending : PySem.W.codeIn K cd_is_ascending "is_ascending" = true)
    (k_is_ascending : PySem.W.keepIn K (.ref f_is_ascending) = true)
    (a_columns : PySem.W.nsIn K mainGlobals "columns" = some (some (.ref f_columns)))
    (l_columns : K.lookup f_columns = some ⟨oc_columns, od_columns, .func (PySem.W.fnOf "columns" "columns" (defArgs s_columns) (defBody s_columns) (defScope s_columns) .none kV_columns dc_columns pm_columns an_columns cd_columns ct_columns), sl_columns⟩)
    (c_columns : PySem.W.codeIn K cd_columns "columns" = true)
    (k_columns : PySem.W.keepIn K (.ref f_columns) = true)
    (a_readings : PySem.W.nsIn K mainGlobals "readings" = some (some (.ref f_readings)))
    (l_readings : K.lookup f_readings = some ⟨oc_readings, od_readings, .func (PySem.W.fnOf "readings" "readings" (defArgs s_readings) (defBody s_readings) (defScope s_readings) .none kV_readings dc_readings pm_readings an_readings cd_readings ct_readings), sl_readings⟩)
    (c_readings : PySem.W.codeIn K cd_readings "readings" = true)
    (k_readings : PySem.W.keepIn K (.ref f_readings) = true)
    (a_is_standing : PySem.W.nsIn K mainGlobals "is_standing" = some (some (.ref f_is_standing)))
    (l_is_standing : K.lookup f_is_standing = some ⟨oc_is_standing, od_is_standing, .func (PySem.W.fnOf "is_standing" "is_standing" (defArgs s_is_standing) (defBody s_is_standing) (defScope s_is_standing) .none kV_is_standing dc_is_standing pm_is_standing an_is_standing cd_is_standing ct_is_standing), sl_is_standing⟩)
    (c_is_standing : PySem.W.codeIn K cd_is_standing "is_standing" = true)
    (k_is_standing : PySem.W.keepIn K (.ref f_is_standing) = true)
    (a_Question_init : PySem.W.findIn K (.ref C_Question) "__init__" = some (some (.ref f_Question_init)))
    (i_Question_init : PySem.W.isFn K (.ref f_Question_init) = true)
    (l_Question_init : K.lookup f_Question_init = some ⟨oc_Question_init, od_Question_init, .func (PySem.W.fnOf "__init__" "Question.__init__" (defArgs s_Question_init) (defBody s_Question_init) (defScope s_Question_init) .none kV_Question_init dc_Question_init pm_Question_init an_Question_init cd_Question_init ct_Question_init), sl_Question_init⟩)
    (c_Question_init : PySem.W.codeIn K cd_Question_init "Question.__init__" = true)
    (k_Question_init : PySem.W.keepIn K (.ref f_Question_init) = true)
    (a_numbers_of : PySem.W.nsIn K mainGlobals "numbers_of" = some (some (.ref f_numbers_of)))
    (l_numbers_of : K.lookup f_numbers_of = some ⟨oc_numbers_of, od_numbers_of, .func (PySem.W.fnOf "numbers_of" "numbers_of" (defArgs s_numbers_of) (defBody s_numbers_of) (defScope s_numbers_of) .none kV_numbers_of dc_numbers_of pm_numbers_of an_numbers_of cd_numbers_of ct_numbers_of), sl_numbers_of⟩)
    (c_numbers_of : PySem.W.codeIn K cd_numbers_of "numbers_of" = true)
    (k_numbers_of : PySem.W.keepIn K (.ref f_numbers_of) = true)
    (a_read : PySem.W.nsIn K mainGlobals "read" = some (some (.ref f_read)))
    (l_read : K.lookup f_read = some ⟨oc_read, od_read, .func (PySem.W.fnOf "read" "read" (defArgs s_read) (defBody s_read) (defScope s_read) .none kV_read dc_read pm_read an_read cd_read ct_read), sl_read⟩)
    (c_read : PySem.W.codeIn K cd_read "read" = true)
    (k_read : PySem.W.keepIn K (.ref f_read) = true)
    (a_are_words : PySem.W.nsIn K mainGlobals "are_words" = some (some (.ref f_are_words)))
    (l_are_words : K.lookup f_are_words = some ⟨oc_are_words, od_are_words, .func (PySem.W.fnOf "are_words" "are_words" (defArgs s_are_words) (defBody s_are_words) (defScope s_are_words) .none kV_are_words dc_are_words pm_are_words an_are_words cd_are_words ct_are_words), sl_are_words⟩)
    (c_are_words : PySem.W.codeIn K cd_are_words "are_words" = true)
    (k_are_words : PySem.W.keepIn K (.ref f_are_words) = true)
    (a_check_words : PySem.W.nsIn K mainGlobals "check_words" = some (some (.ref f_check_words)))
    (l_check_words : K.lookup f_check_words = some ⟨oc_check_words, od_check_words, .func (PySem.W.fnOf "check_words" "check_words" (defArgs s_check_words) (defBody s_check_words) (defScope s_check_words) .none kV_check_words dc_check_words pm_check_words an_check_words cd_check_words ct_check_words), sl_check_words⟩)
    (c_check_words : PySem.W.codeIn K cd_check_words "check_words" = true)
    (k_check_words : PySem.W.keepIn K (.ref f_check_words) = true)
    (a_gone_in : PySem.W.nsIn K mainGlobals "gone_in" = some (some (.ref f_gone_in)))
    (l_gone_in : K.lookup f_gone_in = some ⟨oc_gone_in, od_gone_in, .func (PySem.W.fnOf "gone_in" "gone_in" (defArgs s_gone_in) (defBody s_gone_in) (defScope s_gone_in) .none kV_gone_in dc_gone_in pm_gone_in an_gone_in cd_gone_in ct_gone_in), sl_gone_in⟩)
    (c_gone_in : PySem.W.codeIn K cd_gone_in "gone_in" = true)
    (k_gone_in : PySem.W.keepIn K (.ref f_gone_in) = true)
    (a_Split_open_columns : PySem.W.findIn K (.ref C_Split) "open_columns" = some (some (.ref f_Split_open_columns)))
    (i_Split_open_columns : PySem.W.isFn K (.ref f_Split_open_columns) = true)
    (l_Split_open_columns : K.lookup f_Split_open_columns = some ⟨oc_Split_open_columns, od_Split_open_columns, .func (PySem.W.fnOf "open_columns" "Split.open_columns" (defArgs s_Split_open_columns) (defBody s_Split_open_columns) (defScope s_Split_open_columns) .none kV_Split_open_columns dc_Split_open_columns pm_Split_open_columns an_Split_open_columns cd_Split_open_columns ct_Split_open_columns), sl_Split_open_columns⟩)
    (c_Split_open_columns : PySem.W.codeIn K cd_Split_open_columns "Split.open_columns" = true)
    (k_Split_open_columns : PySem.W.keepIn K (.ref f_Split_open_columns) = true)
    (a_Split_leads_of : PySem.W.findIn K (.ref C_Split) "leads_of" = some (some (.ref f_Split_leads_of)))
    (i_Split_leads_of : PySem.W.isFn K (.ref f_Split_leads_of) = true)
    (l_Split_leads_of : K.lookup f_Split_leads_of = some ⟨oc_Split_leads_of, od_Split_leads_of, .func (PySem.W.fnOf "leads_of" "Split.leads_of" (defArgs s_Split_leads_of) (defBody s_Split_leads_of) (defScope s_Split_leads_of) .none kV_Split_leads_of dc_Split_leads_of pm_Split_leads_of an_Split_leads_of cd_Split_leads_of ct_Split_leads_of), sl_Split_leads_of⟩)
    (c_Split_leads_of : PySem.W.codeIn K cd_Split_leads_of "Split.leads_of" = true)
    (k_Split_leads_of : PySem.W.keepIn K (.ref f_Split_leads_of) = true)
    (a_Split_after : PySem.W.findIn K (.ref C_Split) "after" = some (some (.ref f_Split_after)))
    (i_Split_after : PySem.W.isFn K (.ref f_Split_after) = true)
    (l_Split_after : K.lookup f_Split_after = some ⟨oc_Split_after, od_Split_after, .func (PySem.W.fnOf "after" "Split.after" (defArgs s_Split_after) (defBody s_Split_after) (defScope s_Split_after) .none kV_Split_after dc_Split_after pm_Split_after an_Split_after cd_Split_after ct_Split_after), sl_Split_after⟩)
    (c_Split_after : PySem.W.codeIn K cd_Split_after "Split.after" = true)
    (k_Split_after : PySem.W.keepIn K (.ref f_Split_after) = true)
    (a_Split_meets : PySem.W.findIn K (.ref C_Split) "meets" = some (some (.ref f_Split_meets)))
    (i_Split_meets : PySem.W.isFn K (.ref f_Split_meets) = true)
    (l_Split_meets : K.lookup f_Split_meets = some ⟨oc_Split_meets, od_Split_meets, .func (PySem.W.fnOf "meets" "Split.meets" (defArgs s_Split_meets) (defBody s_Split_meets) (defScope s_Split_meets) .none kV_Split_meets dc_Split_meets pm_Split_meets an_Split_meets cd_Split_meets ct_Split_meets), sl_Split_meets⟩)
    (c_Split_meets : PySem.W.codeIn K cd_Split_meets "Split.meets" = true)
    (k_Split_meets : PySem.W.keepIn K (.ref f_Split_meets) = true)
    (a_Split_unlike_ones : PySem.W.findIn K (.ref C_Split) "unlike_ones" = some (some (.ref f_Split_unlike_ones)))
    (i_Split_unlike_ones : PySem.W.isFn K (.ref f_Split_unlike_ones) = true)
    (l_Split_unlike_ones : K.lookup f_Split_unlike_ones = some ⟨oc_Split_unlike_ones, od_Split_unlike_ones, .func (PySem.W.fnOf "unlike_ones" "Split.unlike_ones" (defArgs s_Split_unlike_ones) (defBody s_Split_unlike_ones) (defScope s_Split_unlike_ones) .none kV_Split_unlike_ones dc_Split_unlike_ones pm_Split_unlike_ones an_Split_unlike_ones cd_Split_unlike_ones ct_Split_unlike_ones), sl_Split_unlike_ones⟩)
    (c_Split_unlike_ones : PySem.W.codeIn K cd_Split_unlike_ones "Split.unlike_ones" = true)
    (k_Split_unlike_ones : PySem.W.keepIn K (.ref f_Split_unlike_ones) = true)
    (a_Split_goals_of : PySem.W.findIn K (.ref C_Split) "goals_of" = some (some (.ref f_Split_goals_of)))
    (i_Split_goals_of : PySem.W.isFn K (.ref f_Split_goals_of) = true)
    (l_Split_goals_of : K.lookup f_Split_goals_of = some ⟨oc_Split_goals_of, od_Split_goals_of, .func (PySem.W.fnOf "goals_of" "Split.goals_of" (defArgs s_Split_goals_of) (defBody s_Split_goals_of) (defScope s_Split_goals_of) .none kV_Split_goals_of dc_Split_goals_of pm_Split_goals_of an_Split_goals_of cd_Split_goals_of ct_Split_goals_of), sl_Split_goals_of⟩)
    (c_Split_goals_of : PySem.W.codeIn K cd_Split_goals_of "Split.goals_of" = true)
    (k_Split_goals_of : PySem.W.keepIn K (.ref f_Split_goals_of) = true)
    (a_Split_can_part : PySem.W.findIn K (.ref C_Split) "can_part" = some (some (.ref f_Split_can_part)))
    (i_Split_can_part : PySem.W.isFn K (.ref f_Split_can_part) = true)
    (l_Split_can_part : K.lookup f_Split_can_part = some ⟨oc_Split_can_part, od_Split_can_part, .func (PySem.W.fnOf "can_part" "Split.can_part" (defArgs s_Split_can_part) (defBody s_Split_can_part) (defScope s_Split_can_part) .none kV_Split_can_part dc_Split_can_part pm_Split_can_part an_Split_can_part cd_Split_can_part ct_Split_can_part), sl_Split_can_part⟩)
    (c_Split_can_part : PySem.W.codeIn K cd_Split_can_part "Split.can_part" = true)
    (k_Split_can_part : PySem.W.keepIn K (.ref f_Split_can_part) = true)
    (a_Split_partable_pairs : PySem.W.findIn K (.ref C_Split) "partable_pairs" = some (some (.ref f_Split_partable_pairs)))
    (i_Split_partable_pairs : PySem.W.isFn K (.ref f_Split_partable_pairs) = true)
    (l_Split_partable_pairs : K.lookup f_Split_partable_pairs = some ⟨oc_Split_partable_pairs, od_Split_partable_pairs, .func (PySem.W.fnOf "partable_pairs" "Split.partable_pairs" (defArgs s_Split_partable_pairs) (defBody s_Split_partable_pairs) (defScope s_Split_partable_pairs) .none kV_Split_partable_pairs dc_Split_partable_pairs pm_Split_partable_pairs an_Split_partable_pairs cd_Split_partable_pairs ct_Split_partable_pairs), sl_Split_partable_pairs⟩)
    (c_Split_partable_pairs : PySem.W.codeIn K cd_Split_partable_pairs "Split.partable_pairs" = true)
    (k_Split_partable_pairs : PySem.W.keepIn K (.ref f_Split_partable_pairs) = true)
    (a_Split_init : PySem.W.findIn K (.ref C_Split) "__init__" = some (some (.ref f_Split_init)))
    (i_Split_init : PySem.W.isFn K (.ref f_Split_init) = true)
    (l_Split_init : K.lookup f_Split_init = some ⟨oc_Split_init, od_Split_init, .func (PySem.W.fnOf "__init__" "Split.__init__" (defArgs s_Split_init) (defBody s_Split_init) (defScope s_Split_init) .none kV_Split_init dc_Split_init pm_Split_init an_Split_init cd_Split_init ct_Split_init), sl_Split_init⟩)
    (c_Split_init : PySem.W.codeIn K cd_Split_init "Split.__init__" = true)
    (k_Split_init : PySem.W.keepIn K (.ref f_Split_init) = true)
    (a_words_in : PySem.W.nsIn K mainGlobals "words_in" = some (some (.ref f_words_in)))
    (l_words_in : K.lookup f_words_in = some ⟨oc_words_in, od_words_in, .func (PySem.W.fnOf "words_in" "words_in" (defArgs s_words_in) (defBody s_words_in) (defScope s_words_in) .none kV_words_in dc_words_in pm_words_in an_words_in cd_words_in ct_words_in), sl_words_in⟩)
    (c_words_in : PySem.W.codeIn K cd_words_in "words_in" = true)
    (k_words_in : PySem.W.keepIn K (.ref f_words_in) = true)
    (a_Split_numbers_of : PySem.W.findIn K (.ref C_Split) "numbers_of" = some (some (.ref f_Split_numbers_of)))
    (i_Split_numbers_of : PySem.W.isFn K (.ref f_Split_numbers_of) = true)
    (l_Split_numbers_of : K.lookup f_Split_numbers_of = some ⟨oc_Split_numbers_of, od_Split_numbers_of, .func (PySem.W.fnOf "numbers_of" "Split.numbers_of" (defArgs s_Split_numbers_of) (defBody s_Split_numbers_of) (defScope s_Split_numbers_of) .none kV_Split_numbers_of dc_Split_numbers_of pm_Split_numbers_of an_Split_numbers_of cd_Split_numbers_of ct_Split_numbers_of), sl_Split_numbers_of⟩)
    (c_Split_numbers_of : PySem.W.codeIn K cd_Split_numbers_of "Split.numbers_of" = true)
    (k_Split_numbers_of : PySem.W.keepIn K (.ref f_Split_numbers_of) = true)
    (a_Split_other_words : PySem.W.findIn K (.ref C_Split) "other_words" = some (some (.ref f_Split_other_words)))
    (i_Split_other_words : PySem.W.isFn K (.ref f_Split_other_words) = true)
    (l_Split_other_words : K.lookup f_Split_other_words = some ⟨oc_Split_other_words, od_Split_other_words, .func (PySem.W.fnOf "other_words" "Split.other_words" (defArgs s_Split_other_words) (defBody s_Split_other_words) (defScope s_Split_other_words) .none kV_Split_other_words dc_Split_other_words pm_Split_other_words an_Split_other_words cd_Split_other_words ct_Split_other_words), sl_Split_other_words⟩)
    (c_Split_other_words : PySem.W.codeIn K cd_Split_other_words "Split.other_words" = true)
    (k_Split_other_words : PySem.W.keepIn K (.ref f_Split_other_words) = true)
    (a_at_or_none : PySem.W.nsIn K mainGlobals "at_or_none" = some (some (.ref f_at_or_none)))
    (l_at_or_none : K.lookup f_at_or_none = some ⟨oc_at_or_none, od_at_or_none, .func (PySem.W.fnOf "at_or_none" "at_or_none" (defArgs s_at_or_none) (defBody s_at_or_none) (defScope s_at_or_none) .none kV_at_or_none dc_at_or_none pm_at_or_none an_at_or_none cd_at_or_none ct_at_or_none), sl_at_or_none⟩)
    (c_at_or_none : PySem.W.codeIn K cd_at_or_none "at_or_none" = true)
    (k_at_or_none : PySem.W.keepIn K (.ref f_at_or_none) = true)
    (a_way_back : PySem.W.nsIn K mainGlobals "way_back" = some (some (.ref f_way_back)))
    (l_way_back : K.lookup f_way_back = some ⟨oc_way_back, od_way_back, .func (PySem.W.fnOf "way_back" "way_back" (defArgs s_way_back) (defBody s_way_back) (defScope s_way_back) .none kV_way_back dc_way_back pm_way_back an_way_back cd_way_back ct_way_back), sl_way_back⟩)
    (c_way_back : PySem.W.codeIn K cd_way_back "way_back" = true)
    (k_way_back : PySem.W.keepIn K (.ref f_way_back) = true)
    (a_Split_parted : PySem.W.findIn K (.ref C_Split) "parted" = some (some (.ref f_Split_parted)))
    (i_Split_parted : PySem.W.isFn K (.ref f_Split_parted) = true)
    (l_Split_parted : K.lookup f_Split_parted = some ⟨oc_Split_parted, od_Split_parted, .func (PySem.W.fnOf "parted" "Split.parted" (defArgs s_Split_parted) (defBody s_Split_parted) (defScope s_Split_parted) .none kV_Split_parted dc_Split_parted pm_Split_parted an_Split_parted cd_Split_parted ct_Split_parted), sl_Split_parted⟩)
    (c_Split_parted : PySem.W.codeIn K cd_Split_parted "Split.parted" = true)
    (k_Split_parted : PySem.W.keepIn K (.ref f_Split_parted) = true)
    (a_split_of : PySem.W.nsIn K mainGlobals "split_of" = some (some (.ref f_split_of)))
    (l_split_of : K.lookup f_split_of = some ⟨oc_split_of, od_split_of, .func (PySem.W.fnOf "split_of" "split_of" (defArgs s_split_of) (defBody s_split_of) (defScope s_split_of) .none kV_split_of dc_split_of pm_split_of an_split_of cd_split_of ct_split_of), sl_split_of⟩)
    (c_split_of : PySem.W.codeIn K cd_split_of "split_of" = true)
    (k_split_of : PySem.W.keepIn K (.ref f_split_of) = true)
    (a_check_lot : PySem.W.nsIn K mainGlobals "check_lot" = some (some (.ref f_check_lot)))
    (l_check_lot : K.lookup f_check_lot = some ⟨oc_check_lot, od_check_lot, .func (PySem.W.fnOf "check_lot" "check_lot" (defArgs s_check_lot) (defBody s_check_lot) (defScope s_check_lot) .none kV_check_lot dc_check_lot pm_check_lot an_check_lot cd_check_lot ct_check_lot), sl_check_lot⟩)
    (c_check_lot : PySem.W.codeIn K cd_check_lot "check_lot" = true)
    (k_check_lot : PySem.W.keepIn K (.ref f_check_lot) = true)
    (a_parted : PySem.W.nsIn K mainGlobals "parted" = some (some (.ref f_parted)))
    (l_parted : K.lookup f_parted = some ⟨oc_parted, od_parted, .func (PySem.W.fnOf "parted" "parted" (defArgs s_parted) (defBody s_parted) (defScope s_parted) .none kV_parted dc_parted pm_parted an_parted cd_parted ct_parted), sl_parted⟩)
    (c_parted : PySem.W.codeIn K cd_parted "parted" = true)
    (k_parted : PySem.W.keepIn K (.ref f_parted) = true)
    (a_wpool : PySem.W.nsIn K mainGlobals "_law_pool" = some (some (.ref f_wpool)))
    (l_wpool : K.lookup f_wpool = some ⟨oc_wpool, od_wpool, .func (PySem.W.fnOf "_law_pool" "_law_pool" (defArgs s_wpool) (defBody s_wpool) (defScope s_wpool) .none kV_wpool dc_wpool pm_wpool an_wpool cd_wpool ct_wpool), sl_wpool⟩)
    (c_wpool : PySem.W.codeIn K cd_wpool "_law_pool" = true)
    (k_wpool : PySem.W.keepIn K (.ref f_wpool) = true)
    (a_wdraw : PySem.W.nsIn K mainGlobals "_law_draw" = some (some (.ref f_wdraw)))
    (l_wdraw : K.lookup f_wdraw = some ⟨oc_wdraw, od_wdraw, .func (PySem.W.fnOf "_law_draw" "_law_draw" (defArgs s_wdraw) (defBody s_wdraw) (defScope s_wdraw) .none kV_wdraw dc_wdraw pm_wdraw an_wdraw cd_wdraw ct_wdraw), sl_wdraw⟩)
    (c_wdraw : PySem.W.codeIn K cd_wdraw "_law_draw" = true)
    (k_wdraw : PySem.W.keepIn K (.ref f_wdraw) = true)
    (a_wpick : PySem.W.nsIn K mainGlobals "_law_pick" = some (some (.ref f_wpick)))
    (l_wpick : K.lookup f_wpick = some ⟨oc_wpick, od_wpick, .func (PySem.W.fnOf "_law_pick" "_law_pick" (defArgs s_wpick) (defBody s_wpick) (defScope s_wpick) .none kV_wpick dc_wpick pm_wpick an_wpick cd_wpick ct_wpick), sl_wpick⟩)
    (c_wpick : PySem.W.codeIn K cd_wpick "_law_pick" = true)
    (k_wpick : PySem.W.keepIn K (.ref f_wpick) = true)
    (a_wcolumns : PySem.W.nsIn K mainGlobals "_law_columns" = some (some (.ref f_wcolumns)))
    (l_wcolumns : K.lookup f_wcolumns = some ⟨oc_wcolumns, od_wcolumns, .func (PySem.W.fnOf "_law_columns" "_law_columns" (defArgs s_wcolumns) (defBody s_wcolumns) (defScope s_wcolumns) .none kV_wcolumns dc_wcolumns pm_wcolumns an_wcolumns cd_wcolumns ct_wcolumns), sl_wcolumns⟩)
    (c_wcolumns : PySem.W.codeIn K cd_wcolumns "_law_columns" = true)
    (k_wcolumns : PySem.W.keepIn K (.ref f_wcolumns) = true)
    (a_wlead : PySem.W.nsIn K mainGlobals "_law_lead" = some (some (.ref f_wlead)))
    (l_wlead : K.lookup f_wlead = some ⟨oc_wlead, od_wlead, .func (PySem.W.fnOf "_law_lead" "_law_lead" (defArgs s_wlead) (defBody s_wlead) (defScope s_wlead) .none kV_wlead dc_wlead pm_wlead an_wlead cd_wlead ct_wlead), sl_wlead⟩)
    (c_wlead : PySem.W.codeIn K cd_wlead "_law_lead" = true)
    (k_wlead : PySem.W.keepIn K (.ref f_wlead) = true)
    (a_wcolumn_at : PySem.W.nsIn K mainGlobals "_law_column_at" = some (some (.ref f_wcolumn_at)))
    (l_wcolumn_at : K.lookup f_wcolumn_at = some ⟨oc_wcolumn_at, od_wcolumn_at, .func (PySem.W.fnOf "_law_column_at" "_law_column_at" (defArgs s_wcolumn_at) (defBody s_wcolumn_at) (defScope s_wcolumn_at) .none kV_wcolumn_at dc_wcolumn_at pm_wcolumn_at an_wcolumn_at cd_wcolumn_at ct_wcolumn_at), sl_wcolumn_at⟩)
    (c_wcolumn_at : PySem.W.codeIn K cd_wcolumn_at "_law_column_at" = true)
    (k_wcolumn_at : PySem.W.keepIn K (.ref f_wcolumn_at) = true)
    (a_wanswer : PySem.W.nsIn K mainGlobals "_law_answer" = some (some (.ref f_wanswer)))
    (l_wanswer : K.lookup f_wanswer = some ⟨oc_wanswer, od_wanswer, .func (PySem.W.fnOf "_law_answer" "_law_answer" (defArgs s_wanswer) (defBody s_wanswer) (defScope s_wanswer) .none kV_wanswer dc_wanswer pm_wanswer an_wanswer cd_wanswer ct_wanswer), sl_wanswer⟩)
    (c_wanswer : PySem.W.codeIn K cd_wanswer "_law_answer" = true)
    (k_wanswer : PySem.W.keepIn K (.ref f_wanswer) = true)
    (a_wby_rows : PySem.W.nsIn K mainGlobals "_law_by_rows" = some (some (.ref f_wby_rows)))
    (l_wby_rows : K.lookup f_wby_rows = some ⟨oc_wby_rows, od_wby_rows, .func (PySem.W.fnOf "_law_by_rows" "_law_by_rows" (defArgs s_wby_rows) (defBody s_wby_rows) (defScope s_wby_rows) .none kV_wby_rows dc_wby_rows pm_wby_rows an_wby_rows cd_wby_rows ct_wby_rows), sl_wby_rows⟩)
    (c_wby_rows : PySem.W.codeIn K cd_wby_rows "_law_by_rows" = true)
    (k_wby_rows : PySem.W.keepIn K (.ref f_wby_rows) = true)
    (a_wdrawn_table : PySem.W.nsIn K mainGlobals "_law_drawn_table" = some (some (.ref f_wdrawn_table)))
    (l_wdrawn_table : K.lookup f_wdrawn_table = some ⟨oc_wdrawn_table, od_wdrawn_table, .func (PySem.W.fnOf "_law_drawn_table" "_law_drawn_table" (defArgs s_wdrawn_table) (defBody s_wdrawn_table) (defScope s_wdrawn_table) .none kV_wdrawn_table dc_wdrawn_table pm_wdrawn_table an_wdrawn_table cd_wdrawn_table ct_wdrawn_table), sl_wdrawn_table⟩)
    (c_wdrawn_table : PySem.W.codeIn K cd_wdrawn_table "_law_drawn_table" = true)
    (k_wdrawn_table : PySem.W.keepIn K (.ref f_wdrawn_table) = true)
    (a_wfirst_signs : PySem.W.nsIn K mainGlobals "_law_first_signs" = some (some (.ref f_wfirst_signs)))
    (l_wfirst_signs : K.lookup f_wfirst_signs = some ⟨oc_wfirst_signs, od_wfirst_signs, .func (PySem.W.fnOf "_law_first_signs" "_law_first_signs" (defArgs s_wfirst_signs) (defBody s_wfirst_signs) (defScope s_wfirst_signs) .none kV_wfirst_signs dc_wfirst_signs pm_wfirst_signs an_wfirst_signs cd_wfirst_signs ct_wfirst_signs), sl_wfirst_signs⟩)
    (c_wfirst_signs : PySem.W.codeIn K cd_wfirst_signs "_law_first_signs" = true)
    (k_wfirst_signs : PySem.W.keepIn K (.ref f_wfirst_signs) = true)
    (a_wcompared : PySem.W.nsIn K mainGlobals "_law_compared" = some (some (.ref f_wcompared)))
    (l_wcompared : K.lookup f_wcompared = some ⟨oc_wcompared, od_wcompared, .func (PySem.W.fnOf "_law_compared" "_law_compared" (defArgs s_wcompared) (defBody s_wcompared) (defScope s_wcompared) .none kV_wcompared dc_wcompared pm_wcompared an_wcompared cd_wcompared ct_wcompared), sl_wcompared⟩)
    (c_wcompared : PySem.W.codeIn K cd_wcompared "_law_compared" = true)
    (k_wcompared : PySem.W.keepIn K (.ref f_wcompared) = true)
    (a_wspec : PySem.W.nsIn K mainGlobals "_law_spec" = some (some (.ref f_wspec)))
    (l_wspec : K.lookup f_wspec = some ⟨oc_wspec, od_wspec, .func (PySem.W.fnOf "_law_spec" "_law_spec" (defArgs s_wspec) (defBody s_wspec) (defScope s_wspec) .none kV_wspec dc_wspec pm_wspec an_wspec cd_wspec ct_wspec), sl_wspec⟩)
    (c_wspec : PySem.W.codeIn K cd_wspec "_law_spec" = true)
    (k_wspec : PySem.W.keepIn K (.ref f_wspec) = true)
    (a_wquestion : PySem.W.nsIn K mainGlobals "_law_question" = some (some (.ref f_wquestion)))
    (l_wquestion : K.lookup f_wquestion = some ⟨oc_wquestion, od_wquestion, .func (PySem.W.fnOf "_law_question" "_law_question" (defArgs s_wquestion) (defBody s_wquestion) (defScope s_wquestion) .none kV_wquestion dc_wquestion pm_wquestion an_wquestion cd_wquestion ct_wquestion), sl_wquestion⟩)
    (c_wquestion : PySem.W.codeIn K cd_wquestion "_law_question" = true)
    (k_wquestion : PySem.W.keepIn K (.ref f_wquestion) = true)
    (a_wothers : PySem.W.nsIn K mainGlobals "_law_others" = some (some (.ref f_wothers)))
    (l_wothers : K.lookup f_wothers = some ⟨oc_wothers, od_wothers, .func (PySem.W.fnOf "_law_others" "_law_others" (defArgs s_wothers) (defBody s_wothers) (defScope s_wothers) .none kV_wothers dc_wothers pm_wothers an_wothers cd_wothers ct_wothers), sl_wothers⟩)
    (c_wothers : PySem.W.codeIn K cd_wothers "_law_others" = true)
    (k_wothers : PySem.W.keepIn K (.ref f_wothers) = true)
    (a_wlot : PySem.W.nsIn K mainGlobals "_law_lot" = some (some (.ref f_wlot)))
    (l_wlot : K.lookup f_wlot = some ⟨oc_wlot, od_wlot, .func (PySem.W.fnOf "_law_lot" "_law_lot" (defArgs s_wlot) (defBody s_wlot) (defScope s_wlot) .none kV_wlot dc_wlot pm_wlot an_wlot cd_wlot ct_wlot), sl_wlot⟩)
    (c_wlot : PySem.W.codeIn K cd_wlot "_law_lot" = true)
    (k_wlot : PySem.W.keepIn K (.ref f_wlot) = true)
    (a_wplaced : PySem.W.nsIn K mainGlobals "_law_placed" = some (some (.ref f_wplaced)))
    (l_wplaced : K.lookup f_wplaced = some ⟨oc_wplaced, od_wplaced, .func (PySem.W.fnOf "_law_placed" "_law_placed" (defArgs s_wplaced) (defBody s_wplaced) (defScope s_wplaced) .none kV_wplaced dc_wplaced pm_wplaced an_wplaced cd_wplaced ct_wplaced), sl_wplaced⟩)
    (c_wplaced : PySem.W.codeIn K cd_wplaced "_law_placed" = true)
    (k_wplaced : PySem.W.keepIn K (.ref f_wplaced) = true)
    (a_wgoes : PySem.W.nsIn K mainGlobals "_law_goes" = some (some (.ref f_wgoes)))
    (l_wgoes : K.lookup f_wgoes = some ⟨oc_wgoes, od_wgoes, .func (PySem.W.fnOf "_law_goes" "_law_goes" (defArgs s_wgoes) (defBody s_wgoes) (defScope s_wgoes) .none kV_wgoes dc_wgoes pm_wgoes an_wgoes cd_wgoes ct_wgoes), sl_wgoes⟩)
    (c_wgoes : PySem.W.codeIn K cd_wgoes "_law_goes" = true)
    (k_wgoes : PySem.W.keepIn K (.ref f_wgoes) = true)
    (a_wparted : PySem.W.nsIn K mainGlobals "_law_parted" = some (some (.ref f_wparted)))
    (l_wparted : K.lookup f_wparted = some ⟨oc_wparted, od_wparted, .func (PySem.W.fnOf "_law_parted" "_law_parted" (defArgs s_wparted) (defBody s_wparted) (defScope s_wparted) .none kV_wparted dc_wparted pm_wparted an_wparted cd_wparted ct_wparted), sl_wparted⟩)
    (c_wparted : PySem.W.codeIn K cd_wparted "_law_parted" = true)
    (k_wparted : PySem.W.keepIn K (.ref f_wparted) = true)
    (a_wdrawn_words : PySem.W.nsIn K mainGlobals "_law_drawn_words" = some (some (.ref f_wdrawn_words)))
    (l_wdrawn_words : K.lookup f_wdrawn_words = some ⟨oc_wdrawn_words, od_wdrawn_words, .func (PySem.W.fnOf "_law_drawn_words" "_law_drawn_words" (defArgs s_wdrawn_words) (defBody s_wdrawn_words) (defScope s_wdrawn_words) .none kV_wdrawn_words dc_wdrawn_words pm_wdrawn_words an_wdrawn_words cd_wdrawn_words ct_wdrawn_words), sl_wdrawn_words⟩)
    (c_wdrawn_words : PySem.W.codeIn K cd_wdrawn_words "_law_drawn_words" = true)
    (k_wdrawn_words : PySem.W.keepIn K (.ref f_wdrawn_words) = true)
    (a_wall_words : PySem.W.nsIn K mainGlobals "_law_all_words" = some (some (.ref f_wall_words)))
    (l_wall_words : K.lookup f_wall_words = some ⟨oc_wall_words, od_wall_words, .func (PySem.W.fnOf "_law_all_words" "_law_all_words" (defArgs s_wall_words) (defBody s_wall_words) (defScope s_wall_words) .none kV_wall_words dc_wall_words pm_wall_words an_wall_words cd_wall_words ct_wall_words), sl_wall_words⟩)
    (c_wall_words : PySem.W.codeIn K cd_wall_words "_law_all_words" = true)
    (k_wall_words : PySem.W.keepIn K (.ref f_wall_words) = true)
    (a_ware_words : PySem.W.nsIn K mainGlobals "_law_are_words" = some (some (.ref f_ware_words)))
    (l_ware_words : K.lookup f_ware_words = some ⟨oc_ware_words, od_ware_words, .func (PySem.W.fnOf "_law_are_words" "_law_are_words" (defArgs s_ware_words) (defBody s_ware_words) (defScope s_ware_words) .none kV_ware_words dc_ware_words pm_ware_words an_ware_words cd_ware_words ct_ware_words), sl_ware_words⟩)
    (c_ware_words : PySem.W.codeIn K cd_ware_words "_law_are_words" = true)
    (k_ware_words : PySem.W.keepIn K (.ref f_ware_words) = true)
    (a_law : PySem.W.nsIn K mainGlobals "law" = some (some (.ref f_law)))
    (l_law : K.lookup f_law = some ⟨oc_law, od_law, .func (PySem.W.fnOf "law" "law" (defArgs s_law) (defBody s_law) (defScope s_law) .none kV_law dc_law pm_law an_law cd_law ct_law), sl_law⟩)
    (c_law : PySem.W.codeIn K cd_law "law" = true)
    (k_law : PySem.W.keepIn K (.ref f_law) = true)
    (pg_Question : PySem.W.plainGet K C_Question Str.empty = true)
    (hd_Question : PySem.W.hasDictIn K C_Question = true)
    (po_Question : PySem.W.plainOver K C_Question = true)
    (sa_Question : PySem.W.findIn K (.ref C_Question) "__setattr__" = some (some (.builtin "object.__setattr__")))
    (mk_Question : PySem.W.makesIn K C_Question = true)
    (kc_Question : PySem.W.keepIn K (.ref C_Question) = true)
    (n_Question_rows : PySem.W.findIn K (.ref C_Question) "rows" = some none)
    (n_Question_letters : PySem.W.findIn K (.ref C_Question) "letters" = some none)
    (n_Question_table : PySem.W.findIn K (.ref C_Question) "table" = some none)
    (n_Question_kept : PySem.W.findIn K (.ref C_Question) "kept" = some none)
    (pg_Split : PySem.W.plainGet K C_Split Str.empty = true)
    (hd_Split : PySem.W.hasDictIn K C_Split = true)
    (po_Split : PySem.W.plainOver K C_Split = true)
    (sa_Split : PySem.W.findIn K (.ref C_Split) "__setattr__" = some (some (.builtin "object.__setattr__")))
    (mk_Split : PySem.W.makesIn K C_Split = true)
    (kc_Split : PySem.W.keepIn K (.ref C_Split) = true)
    (n_Split_question : PySem.W.findIn K (.ref C_Split) "question" = some none)
    (n_Split_lot : PySem.W.findIn K (.ref C_Split) "lot" = some none)
    (n_Split_others : PySem.W.findIn K (.ref C_Split) "others" = some none)
    (n_Split_lot_columns : PySem.W.findIn K (.ref C_Split) "lot_columns" = some none)
    (n_Split_other_columns : PySem.W.findIn K (.ref C_Split) "other_columns" = some none)
    (n_Split_lot_gone : PySem.W.findIn K (.ref C_Split) "lot_gone" = some none)
    (n_Split_other_gone : PySem.W.findIn K (.ref C_Split) "other_gone" = some none)
    (n_Split_lot_open : PySem.W.findIn K (.ref C_Split) "lot_open" = some none)
    (n_Split_other_open : PySem.W.findIn K (.ref C_Split) "other_open" = some none)
    (n_Split_lead : PySem.W.findIn K (.ref C_Split) "lead" = some none)
    (n_Split_flags : PySem.W.findIn K (.ref C_Split) "flags" = some none)
    (n_Split_unlike : PySem.W.findIn K (.ref C_Split) "unlike" = some none)
    (n_Split_partable : PySem.W.findIn K (.ref C_Split) "partable" = some none)
    (kk_GONE : PySem.W.nsIn K mainGlobals "GONE" = some (some (.str "-" t_GONE)))
    (kk_LEAST_ROWS : PySem.W.nsIn K mainGlobals "LEAST_ROWS" = some (some (.int 2 t_LEAST_ROWS)))
    (kk_LETTERS : PySem.W.nsIn K mainGlobals "LETTERS" = some (some (.str "abc" t_LETTERS)))
    (kk_MOST_LETTERS : PySem.W.nsIn K mainGlobals "MOST_LETTERS" = some (some (.int 2 t_MOST_LETTERS)))
    (kk_MOST_ROWS : PySem.W.nsIn K mainGlobals "MOST_ROWS" = some (some (.int 4 t_MOST_ROWS)))
    (kk_MOST_STANDINGS : PySem.W.nsIn K mainGlobals "MOST_STANDINGS" = some (some (.int 8 t_MOST_STANDINGS)))
    (z_abs : PySem.W.nsIn K mainGlobals "abs" = some none)
    (z_all : PySem.W.nsIn K mainGlobals "all" = some none)
    (z_any : PySem.W.nsIn K mainGlobals "any" = some none)
    (z_bool : PySem.W.nsIn K mainGlobals "bool" = some none)
    (z_dict : PySem.W.nsIn K mainGlobals "dict" = some none)
    (z_enumerate : PySem.W.nsIn K mainGlobals "enumerate" = some none)
    (z_int : PySem.W.nsIn K mainGlobals "int" = some none)
    (z_isinstance : PySem.W.nsIn K mainGlobals "isinstance" = some none)
    (z_len : PySem.W.nsIn K mainGlobals "len" = some none)
    (z_list : PySem.W.nsIn K mainGlobals "list" = some none)
    (z_max : PySem.W.nsIn K mainGlobals "max" = some none)
    (z_min : PySem.W.nsIn K mainGlobals "min" = some none)
    (z_range : PySem.W.nsIn K mainGlobals "range" = some none)
    (z_set : PySem.W.nsIn K mainGlobals "set" = some none)
    (z_sorted : PySem.W.nsIn K mainGlobals "sorted" = some none)
    (z_str : PySem.W.nsIn K mainGlobals "str" = some none)
    (z_sum : PySem.W.nsIn K mainGlobals "sum" = some none)
    (z_tuple : PySem.W.nsIn K mainGlobals "tuple" = some none)
    (z_zip : PySem.W.nsIn K mainGlobals "zip" = some none)
    : ∃ fd : FuncData, (∀ (s : Shared) (v : Value), BindsTo s fd ⟨[v], []⟩ [("script", v)]) ∧ ∀ base : Heap, K.In base → base.Ns mainGlobals mg → FnOk l.prog w K mg base CX0 10 fa fd ["script"] (LSp K w sp_law) := by
  have e := hfa.symm.trans (PySem.W.mg_of X G a_law)
  cases e
  have F_is_integer := fun_mk (st := s_is_integer) l_is_integer c_is_integer k_is_integer
  have b_is_integer := F_is_integer.binds (ps := ["thing"]) fun _ _ _ _ _ _ us hl => match us, hl with | [_], _ => rfl
  have F_is_within := fun_mk (st := s_is_within) l_is_within c_is_within k_is_within
  have b_is_within := F_is_within.binds (ps := ["thing", "least", "most"]) fun _ _ _ _ _ _ us hl => match us, hl with | [_, _, _], _ => rfl
  have F_is_pair := fun_mk (st := s_is_pair) l_is_pair c_is_pair k_is_pair
  have b_is_pair := F_is_pair.binds (ps := ["thing"]) fun _ _ _ _ _ _ us hl => match us, hl with | [_], _ => rfl
  have F_is_string_of := fun_mk (st := s_is_string_of) l_is_string_of c_is_string_of k_is_string_of
  have b_is_string_of := F_is_string_of.binds (ps := ["thing", "signs"]) fun _ _ _ _ _ _ us hl => match us, hl with | [_, _], _ => rfl
  have F_is_letters := fun_mk (st := s_is_letters) l_is_letters c_is_letters k_is_letters
  have b_is_letters := F_is_letters.binds (ps := ["thing", "letters"]) fun _ _ _ _ _ _ us hl => match us, hl with | [_, _], _ => rfl
  have F_is_ascending := fun_mk (st := s_is_ascending) l_is_ascending c_is_ascending k_is_ascending
  have b_is_ascending := F_is_ascending.binds (ps := ["thing", "many"]) fun _ _ _ _ _ _ us hl => match us, hl with | [_, _], _ => rfl
  have F_columns := fun_mk (st := s_columns) l_columns c_columns k_columns
  have b_columns := F_columns.binds (ps := ["rows", "letters"]) fun _ _ _ _ _ _ us hl => match us, hl with | [_, _], _ => rfl
  have F_readings := fun_mk (st := s_readings) l_readings c_readings k_readings
  have b_readings := F_readings.binds (ps := ["rows", "letters"]) fun _ _ _ _ _ _ us hl => match us, hl with | [_, _], _ => rfl
  have F_is_standing := fun_mk (st := s_is_standing) l_is_standing c_is_standing k_is_standing
  have b_is_standing := F_is_standing.binds (ps := ["thing", "many", "wide"]) fun _ _ _ _ _ _ us hl => match us, hl with | [_, _, _], _ => rfl
  have F_Question_init := fun_mk (st := s_Question_init) l_Question_init c_Question_init k_Question_init
  have b_Question_init := F_Question_init.binds (ps := ["self", "rows", "letters", "table"]) fun _ _ _ _ _ _ us hl => match us, hl with | [_, _, _, _], _ => rfl
  have F_numbers_of := fun_mk (st := s_numbers_of) l_numbers_of c_numbers_of k_numbers_of
  have b_numbers_of := F_numbers_of.binds (ps := ["question"]) fun _ _ _ _ _ _ us hl => match us, hl with | [_], _ => rfl
  have F_read := fun_mk (st := s_read) l_read c_read k_read
  have b_read := F_read.binds (ps := ["question", "standing", "reading"]) fun _ _ _ _ _ _ us hl => match us, hl with | [_, _, _], _ => rfl
  have F_are_words := fun_mk (st := s_are_words) l_are_words c_are_words k_are_words
  have b_are_words := F_are_words.binds (ps := ["many", "letters", "thing"]) fun _ _ _ _ _ _ us hl => match us, hl with | [_, _, _], _ => rfl
  have F_check_words := fun_mk (st := s_check_words) l_check_words c_check_words k_check_words
  have b_check_words := F_check_words.binds (ps := ["many", "letters", "thing"]) fun _ _ _ _ _ _ us hl => match us, hl with | [_, _, _], _ => rfl
  have F_gone_in := fun_mk (st := s_gone_in) l_gone_in c_gone_in k_gone_in
  have b_gone_in := F_gone_in.binds (ps := ["column"]) fun _ _ _ _ _ _ us hl => match us, hl with | [_], _ => rfl
  have F_Split_open_columns := fun_mk (st := s_Split_open_columns) l_Split_open_columns c_Split_open_columns k_Split_open_columns
  have b_Split_open_columns := F_Split_open_columns.binds (ps := ["self", "gone"]) fun _ _ _ _ _ _ us hl => match us, hl with | [_, _], _ => rfl
  have F_Split_leads_of := fun_mk (st := s_Split_leads_of) l_Split_leads_of c_Split_leads_of k_Split_leads_of
  have b_Split_leads_of := F_Split_leads_of.binds (ps := ["self", "standing"]) fun _ _ _ _ _ _ us hl => match us, hl with | [_, _], _ => rfl
  have F_Split_after := fun_mk (st := s_Split_after) l_Split_after c_Split_after k_Split_after
  have b_Split_after := F_Split_after.binds (ps := ["self", "triple", "column", "second"]) fun _ _ _ _ _ _ us hl => match us, hl with | [_, _, _, _], _ => rfl
  have F_Split_meets := fun_mk (st := s_Split_meets) l_Split_meets c_Split_meets k_Split_meets
  have b_Split_meets := F_Split_meets.binds (ps := ["self", "found", "triples"]) fun _ _ _ _ _ _ us hl => match us, hl with | [_, _, _], _ => rfl
  have F_Split_unlike_ones := fun_mk (st := s_Split_unlike_ones) l_Split_unlike_ones c_Split_unlike_ones k_Split_unlike_ones
  have b_Split_unlike_ones := F_Split_unlike_ones.binds (ps := ["self"]) fun _ _ _ _ _ _ us hl => match us, hl with | [_], _ => rfl
  have F_Split_goals_of := fun_mk (st := s_Split_goals_of) l_Split_goals_of c_Split_goals_of k_Split_goals_of
  have b_Split_goals_of := F_Split_goals_of.binds (ps := ["self", "standing"]) fun _ _ _ _ _ _ us hl => match us, hl with | [_, _], _ => rfl
  have F_Split_can_part := fun_mk (st := s_Split_can_part) l_Split_can_part c_Split_can_part k_Split_can_part
  have b_Split_can_part := F_Split_can_part.binds (ps := ["self", "found", "goals", "pair"]) fun _ _ _ _ _ _ us hl => match us, hl with | [_, _, _, _], _ => rfl
  have F_Split_partable_pairs := fun_mk (st := s_Split_partable_pairs) l_Split_partable_pairs c_Split_partable_pairs k_Split_partable_pairs
  have b_Split_partable_pairs := F_Split_partable_pairs.binds (ps := ["self"]) fun _ _ _ _ _ _ us hl => match us, hl with | [_], _ => rfl
  have F_Split_init := fun_mk (st := s_Split_init) l_Split_init c_Split_init k_Split_init
  have b_Split_init := F_Split_init.binds (ps := ["self", "question", "lot"]) fun _ _ _ _ _ _ us hl => match us, hl with | [_, _, _], _ => rfl
  have F_words_in := fun_mk (st := s_words_in) l_words_in c_words_in k_words_in
  have b_words_in := F_words_in.binds (ps := ["listed", "many"]) fun _ _ _ _ _ _ us hl => match us, hl with | [_, _], _ => rfl
  have F_Split_numbers_of := fun_mk (st := s_Split_numbers_of) l_Split_numbers_of c_Split_numbers_of k_Split_numbers_of
  have b_Split_numbers_of := F_Split_numbers_of.binds (ps := ["self", "words"]) fun _ _ _ _ _ _ us hl => match us, hl with | [_, _], _ => rfl
  have F_Split_other_words := fun_mk (st := s_Split_other_words) l_Split_other_words c_Split_other_words k_Split_other_words
  have b_Split_other_words := F_Split_other_words.binds (ps := ["self", "numbers"]) fun _ _ _ _ _ _ us hl => match us, hl with | [_, _], _ => rfl
  have F_at_or_none := fun_mk (st := s_at_or_none) l_at_or_none c_at_or_none k_at_or_none
  have b_at_or_none := F_at_or_none.binds (ps := ["numbers", "place"]) fun _ _ _ _ _ _ us hl => match us, hl with | [_, _], _ => rfl
  have F_way_back := fun_mk (st := s_way_back) l_way_back c_way_back k_way_back
  have b_way_back := F_way_back.binds (ps := ["came", "node"]) fun _ _ _ _ _ _ us hl => match us, hl with | [_, _], _ => rfl
  have F_Split_parted := fun_mk (st := s_Split_parted) l_Split_parted c_Split_parted k_Split_parted
  have b_Split_parted := F_Split_parted.binds (ps := ["self", "first", "second"]) fun _ _ _ _ _ _ us hl => match us, hl with | [_, _, _], _ => rfl
  have F_split_of := fun_mk (st := s_split_of) l_split_of c_split_of k_split_of
  have b_split_of := F_split_of.binds (ps := ["question", "lot"]) fun _ _ _ _ _ _ us hl => match us, hl with | [_, _], _ => rfl
  have F_check_lot := fun_mk (st := s_check_lot) l_check_lot c_check_lot k_check_lot
  have b_check_lot := F_check_lot.binds (ps := ["question", "lot"]) fun _ _ _ _ _ _ us hl => match us, hl with | [_, _], _ => rfl
  have F_parted := fun_mk (st := s_parted) l_parted c_parted k_parted
  have b_parted := F_parted.binds (ps := ["question", "lot", "first", "second"]) fun _ _ _ _ _ _ us hl => match us, hl with | [_, _, _, _], _ => rfl
  have F_wpool := fun_mk (st := s_wpool) l_wpool c_wpool k_wpool
  have b_wpool := F_wpool.binds (ps := ["script"]) fun _ _ _ _ _ _ us hl => match us, hl with | [_], _ => rfl
  have F_wdraw := fun_mk (st := s_wdraw) l_wdraw c_wdraw k_wdraw
  have b_wdraw := F_wdraw.binds (ps := ["pool", "many"]) fun _ _ _ _ _ _ us hl => match us, hl with | [_, _], _ => rfl
  have F_wpick := fun_mk (st := s_wpick) l_wpick c_wpick k_wpick
  have b_wpick := F_wpick.binds (ps := ["pool", "things"]) fun _ _ _ _ _ _ us hl => match us, hl with | [_, _], _ => rfl
  have F_wcolumns := fun_mk (st := s_wcolumns) l_wcolumns c_wcolumns k_wcolumns
  have b_wcolumns := F_wcolumns.binds (ps := ["rows", "letters"]) fun _ _ _ _ _ _ us hl => match us, hl with | [_, _], _ => rfl
  have F_wlead := fun_mk (st := s_wlead) l_wlead c_wlead k_wlead
  have b_wlead := F_wlead.binds (ps := ["spec", "standing", "column"]) fun _ _ _ _ _ _ us hl => match us, hl with | [_, _, _], _ => rfl
  have F_wcolumn_at := fun_mk (st := s_wcolumn_at) l_wcolumn_at c_wcolumn_at k_wcolumn_at
  have b_wcolumn_at := F_wcolumn_at.binds (ps := ["words", "place"]) fun _ _ _ _ _ _ us hl => match us, hl with | [_, _], _ => rfl
  have F_wanswer := fun_mk (st := s_wanswer) l_wanswer c_wanswer k_wanswer
  have b_wanswer := F_wanswer.binds (ps := ["spec", "words"]) fun _ _ _ _ _ _ us hl => match us, hl with | [_, _], _ => rfl
  have F_wby_rows := fun_mk (st := s_wby_rows) l_wby_rows c_wby_rows k_wby_rows
  have b_wby_rows := F_wby_rows.binds (ps := ["pool", "rows", "letters"]) fun _ _ _ _ _ _ us hl => match us, hl with | [_, _, _], _ => rfl
  have F_wdrawn_table := fun_mk (st := s_wdrawn_table) l_wdrawn_table c_wdrawn_table k_wdrawn_table
  have b_wdrawn_table := F_wdrawn_table.binds (ps := ["pool", "rows", "letters", "many", "plain"]) fun _ _ _ _ _ _ us hl => match us, hl with | [_, _, _, _, _], _ => rfl
  have F_wfirst_signs := fun_mk (st := s_wfirst_signs) l_wfirst_signs c_wfirst_signs k_wfirst_signs
  have b_wfirst_signs := F_wfirst_signs.binds (ps := ["pool", "rows", "letters"]) fun _ _ _ _ _ _ us hl => match us, hl with | [_, _, _], _ => rfl
  have F_wcompared := fun_mk (st := s_wcompared) l_wcompared c_wcompared k_wcompared
  have b_wcompared := F_wcompared.binds (ps := ["pool", "rows", "letters"]) fun _ _ _ _ _ _ us hl => match us, hl with | [_, _, _], _ => rfl
  have F_wspec := fun_mk (st := s_wspec) l_wspec c_wspec k_wspec
  have b_wspec := F_wspec.binds (ps := ["pool", "most_rows"]) fun _ _ _ _ _ _ us hl => match us, hl with | [_, _], _ => rfl
  have F_wquestion := fun_mk (st := s_wquestion) l_wquestion c_wquestion k_wquestion
  have b_wquestion := F_wquestion.binds (ps := ["spec"]) fun _ _ _ _ _ _ us hl => match us, hl with | [_], _ => rfl
  have F_wothers := fun_mk (st := s_wothers) l_wothers c_wothers k_wothers
  have b_wothers := F_wothers.binds (ps := ["rows", "lot"]) fun _ _ _ _ _ _ us hl => match us, hl with | [_, _], _ => rfl
  have F_wlot := fun_mk (st := s_wlot) l_wlot c_wlot k_wlot
  have b_wlot := F_wlot.binds (ps := ["pool", "rows"]) fun _ _ _ _ _ _ us hl => match us, hl with | [_, _], _ => rfl
  have F_wplaced := fun_mk (st := s_wplaced) l_wplaced c_wplaced k_wplaced
  have b_wplaced := F_wplaced.binds (ps := ["rows", "lot", "ahead", "other"]) fun _ _ _ _ _ _ us hl => match us, hl with | [_, _, _, _], _ => rfl
  have F_wgoes := fun_mk (st := s_wgoes) l_wgoes c_wgoes k_wgoes
  have b_wgoes := F_wgoes.binds (ps := ["ended", "column"]) fun _ _ _ _ _ _ us hl => match us, hl with | [_, _], _ => rfl
  have F_wparted := fun_mk (st := s_wparted) l_wparted c_wparted k_wparted
  have b_wparted := F_wparted.binds (ps := ["spec", "lot", "first", "second"]) fun _ _ _ _ _ _ us hl => match us, hl with | [_, _, _, _], _ => rfl
  have F_wdrawn_words := fun_mk (st := s_wdrawn_words) l_wdrawn_words c_wdrawn_words k_wdrawn_words
  have b_wdrawn_words := F_wdrawn_words.binds (ps := ["pool", "rows", "letters", "most"]) fun _ _ _ _ _ _ us hl => match us, hl with | [_, _, _, _], _ => rfl
  have F_wall_words := fun_mk (st := s_wall_words) l_wall_words c_wall_words k_wall_words
  have b_wall_words := F_wall_words.binds (ps := ["rows", "lot", "told", "other"]) fun _ _ _ _ _ _ us hl => match us, hl with | [_, _, _, _], _ => rfl
  have F_ware_words := fun_mk (st := s_ware_words) l_ware_words c_ware_words k_ware_words
  have b_ware_words := F_ware_words.binds (ps := ["many", "letters", "thing"]) fun _ _ _ _ _ _ us hl => match us, hl with | [_, _, _], _ => rfl
  have F_law := fun_mk (st := s_law) l_law c_law k_law
  have b_law := F_law.binds (ps := ["script"]) fun _ _ _ _ _ _ us hl => match us, hl with | [_], _ => rfl
  let T : Txt K mg := {
    t_MOST_STANDINGS := t_MOST_STANDINGS,
    t_MOST_ROWS := t_MOST_ROWS,
    t_MOST_LETTERS := t_MOST_LETTERS,
    t_LETTERS := t_LETTERS,
    t_LEAST_ROWS := t_LEAST_ROWS,
    t_GONE := t_GONE,
    a_is_integer := f_is_integer,
    d_is_integer := _,
    F_is_integer := F_is_integer,
    b_is_integer := b_is_integer,
    m_is_integer := PySem.W.mg_of X G a_is_integer,
    a_is_within := f_is_within,
    d_is_within := _,
    F_is_within := F_is_within,
    b_is_within := b_is_within,
    m_is_within := PySem.W.mg_of X G a_is_within,
    a_is_pair := f_is_pair,
    d_is_pair := _,
    F_is_pair := F_is_pair,
    b_is_pair := b_is_pair,
    m_is_pair := PySem.W.mg_of X G a_is_pair,
    a_is_string_of := f_is_string_of,
    d_is_string_of := _,
    F_is_string_of := F_is_string_of,
    b_is_string_of := b_is_string_of,
    m_is_string_of := PySem.W.mg_of X G a_is_string_of,
    a_is_letters := f_is_letters,
    d_is_letters := _,
    F_is_letters := F_is_letters,
    b_is_letters := b_is_letters,
    m_is_letters := PySem.W.mg_of X G a_is_letters,
    a_is_ascending := f_is_ascending,
    d_is_ascending := _,
    F_is_ascending := F_is_ascending,
    b_is_ascending := b_is_ascending,
    m_is_ascending := PySem.W.mg_of X G a_is_ascending,
    a_columns := f_columns,
    d_columns := _,
    F_columns := F_columns,
    b_columns := b_columns,
    m_columns := PySem.W.mg_of X G a_columns,
    a_readings := f_readings,
    d_readings := _,
    F_readings := F_readings,
    b_readings := b_readings,
    m_readings := PySem.W.mg_of X G a_readings,
    a_is_standing := f_is_standing,
    d_is_standing := _,
    F_is_standing := F_is_standing,
    b_is_standing := b_is_standing,
    m_is_standing := PySem.W.mg_of X G a_is_standing,
    a_Question_init := f_Question_init,
    d_Question_init := _,
    F_Question_init := F_Question_init,
    b_Question_init := b_Question_init,
    a_numbers_of := f_numbers_of,
    d_numbers_of := _,
    F_numbers_of := F_numbers_of,
    b_numbers_of := b_numbers_of,
    m_numbers_of := PySem.W.mg_of X G a_numbers_of,
    a_read := f_read,
    d_read := _,
    F_read := F_read,
    b_read := b_read,
    m_read := PySem.W.mg_of X G a_read,
    a_are_words := f_are_words,
    d_are_words := _,
    F_are_words := F_are_words,
    b_are_words := b_are_words,
    m_are_words := PySem.W.mg_of X G a_are_words,
    a_check_words := f_check_words,
    d_check_words := _,
    F_check_words := F_check_words,
    b_check_words := b_check_words,
    m_check_words := PySem.W.mg_of X G a_check_words,
    a_gone_in := f_gone_in,
    d_gone_in := _,
    F_gone_in := F_gone_in,
    b_gone_in := b_gone_in,
    m_gone_in := PySem.W.mg_of X G a_gone_in,
    a_Split_open_columns := f_Split_open_columns,
    d_Split_open_columns := _,
    F_Split_open_columns := F_Split_open_columns,
    b_Split_open_columns := b_Split_open_columns,
    me_Split_open_columns := ⟨a_Split_open_columns, i_Split_open_columns, k_Split_open_columns⟩,
    a_Split_leads_of := f_Split_leads_of,
    d_Split_leads_of := _,
    F_Split_leads_of := F_Split_leads_of,
    b_Split_leads_of := b_Split_leads_of,
    me_Split_leads_of := ⟨a_Split_leads_of, i_Split_leads_of, k_Split_leads_of⟩,
    a_Split_after := f_Split_after,
    d_Split_after := _,
    F_Split_after := F_Split_after,
    b_Split_after := b_Split_after,
    me_Split_after := ⟨a_Split_after, i_Split_after, k_Split_after⟩,
    a_Split_meets := f_Split_meets,
    d_Split_meets := _,
    F_Split_meets := F_Split_meets,
    b_Split_meets := b_Split_meets,
    me_Split_meets := ⟨a_Split_meets, i_Split_meets, k_Split_meets⟩,
    a_Split_unlike_ones := f_Split_unlike_ones,
    d_Split_unlike_ones := _,
    F_Split_unlike_ones := F_Split_unlike_ones,
    b_Split_unlike_ones := b_Split_unlike_ones,
    me_Split_unlike_ones := ⟨a_Split_unlike_ones, i_Split_unlike_ones, k_Split_unlike_ones⟩,
    a_Split_goals_of := f_Split_goals_of,
    d_Split_goals_of := _,
    F_Split_goals_of := F_Split_goals_of,
    b_Split_goals_of := b_Split_goals_of,
    me_Split_goals_of := ⟨a_Split_goals_of, i_Split_goals_of, k_Split_goals_of⟩,
    a_Split_can_part := f_Split_can_part,
    d_Split_can_part := _,
    F_Split_can_part := F_Split_can_part,
    b_Split_can_part := b_Split_can_part,
    me_Split_can_part := ⟨a_Split_can_part, i_Split_can_part, k_Split_can_part⟩,
    a_Split_partable_pairs := f_Split_partable_pairs,
    d_Split_partable_pairs := _,
    F_Split_partable_pairs := F_Split_partable_pairs,
    b_Split_partable_pairs := b_Split_partable_pairs,
    me_Split_partable_pairs := ⟨a_Split_partable_pairs, i_Split_partable_pairs, k_Split_partable_pairs⟩,
    a_Split_init := f_Split_init,
    d_Split_init := _,
    F_Split_init := F_Split_init,
    b_Split_init := b_Split_init,
    a_words_in := f_words_in,
    d_words_in := _,
    F_words_in := F_words_in,
    b_words_in := b_words_in,
    m_words_in := PySem.W.mg_of X G a_words_in,
    a_Split_numbers_of := f_Split_numbers_of,
    d_Split_numbers_of := _,
    F_Split_numbers_of := F_Split_numbers_of,
    b_Split_numbers_of := b_Split_numbers_of,
    me_Split_numbers_of := ⟨a_Split_numbers_of, i_Split_numbers_of, k_Split_numbers_of⟩,
    a_Split_other_words := f_Split_other_words,
    d_Split_other_words := _,
    F_Split_other_words := F_Split_other_words,
    b_Split_other_words := b_Split_other_words,
    me_Split_other_words := ⟨a_Split_other_words, i_Split_other_words, k_Split_other_words⟩,
    a_at_or_none := f_at_or_none,
    d_at_or_none := _,
    F_at_or_none := F_at_or_none,
    b_at_or_none := b_at_or_none,
    m_at_or_none := PySem.W.mg_of X G a_at_or_none,
    a_way_back := f_way_back,
    d_way_back := _,
    F_way_back := F_way_back,
    b_way_back := b_way_back,
    m_way_back := PySem.W.mg_of X G a_way_back,
    a_Split_parted := f_Split_parted,
    d_Split_parted := _,
    F_Split_parted := F_Split_parted,
    b_Split_parted := b_Split_parted,
    me_Split_parted := ⟨a_Split_parted, i_Split_parted, k_Split_parted⟩,
    a_split_of := f_split_of,
    d_split_of := _,
    F_split_of := F_split_of,
    b_split_of := b_split_of,
    m_split_of := PySem.W.mg_of X G a_split_of,
    a_check_lot := f_check_lot,
    d_check_lot := _,
    F_check_lot := F_check_lot,
    b_check_lot := b_check_lot,
    m_check_lot := PySem.W.mg_of X G a_check_lot,
    a_parted := f_parted,
    d_parted := _,
    F_parted := F_parted,
    b_parted := b_parted,
    m_parted := PySem.W.mg_of X G a_parted,
    a_wpool := f_wpool,
    d_wpool := _,
    F_wpool := F_wpool,
    b_wpool := b_wpool,
    m_wpool := PySem.W.mg_of X G a_wpool,
    a_wdraw := f_wdraw,
    d_wdraw := _,
    F_wdraw := F_wdraw,
    b_wdraw := b_wdraw,
    m_wdraw := PySem.W.mg_of X G a_wdraw,
    a_wpick := f_wpick,
    d_wpick := _,
    F_wpick := F_wpick,
    b_wpick := b_wpick,
    m_wpick := PySem.W.mg_of X G a_wpick,
    a_wcolumns := f_wcolumns,
    d_wcolumns := _,
    F_wcolumns := F_wcolumns,
    b_wcolumns := b_wcolumns,
    m_wcolumns := PySem.W.mg_of X G a_wcolumns,
    a_wlead := f_wlead,
    d_wlead := _,
    F_wlead := F_wlead,
    b_wlead := b_wlead,
    m_wlead := PySem.W.mg_of X G a_wlead,
    a_wcolumn_at := f_wcolumn_at,
    d_wcolumn_at := _,
    F_wcolumn_at := F_wcolumn_at,
    b_wcolumn_at := b_wcolumn_at,
    m_wcolumn_at := PySem.W.mg_of X G a_wcolumn_at,
    a_wanswer := f_wanswer,
    d_wanswer := _,
    F_wanswer := F_wanswer,
    b_wanswer := b_wanswer,
    m_wanswer := PySem.W.mg_of X G a_wanswer,
    a_wby_rows := f_wby_rows,
    d_wby_rows := _,
    F_wby_rows := F_wby_rows,
    b_wby_rows := b_wby_rows,
    m_wby_rows := PySem.W.mg_of X G a_wby_rows,
    a_wdrawn_table := f_wdrawn_table,
    d_wdrawn_table := _,
    F_wdrawn_table := F_wdrawn_table,
    b_wdrawn_table := b_wdrawn_table,
    m_wdrawn_table := PySem.W.mg_of X G a_wdrawn_table,
    a_wfirst_signs := f_wfirst_signs,
    d_wfirst_signs := _,
    F_wfirst_signs := F_wfirst_signs,
    b_wfirst_signs := b_wfirst_signs,
    m_wfirst_signs := PySem.W.mg_of X G a_wfirst_signs,
    a_wcompared := f_wcompared,
    d_wcompared := _,
    F_wcompared := F_wcompared,
    b_wcompared := b_wcompared,
    m_wcompared := PySem.W.mg_of X G a_wcompared,
    a_wspec := f_wspec,
    d_wspec := _,
    F_wspec := F_wspec,
    b_wspec := b_wspec,
    m_wspec := PySem.W.mg_of X G a_wspec,
    a_wquestion := f_wquestion,
    d_wquestion := _,
    F_wquestion := F_wquestion,
    b_wquestion := b_wquestion,
    m_wquestion := PySem.W.mg_of X G a_wquestion,
    a_wothers := f_wothers,
    d_wothers := _,
    F_wothers := F_wothers,
    b_wothers := b_wothers,
    m_wothers := PySem.W.mg_of X G a_wothers,
    a_wlot := f_wlot,
    d_wlot := _,
    F_wlot := F_wlot,
    b_wlot := b_wlot,
    m_wlot := PySem.W.mg_of X G a_wlot,
    a_wplaced := f_wplaced,
    d_wplaced := _,
    F_wplaced := F_wplaced,
    b_wplaced := b_wplaced,
    m_wplaced := PySem.W.mg_of X G a_wplaced,
    a_wgoes := f_wgoes,
    d_wgoes := _,
    F_wgoes := F_wgoes,
    b_wgoes := b_wgoes,
    m_wgoes := PySem.W.mg_of X G a_wgoes,
    a_wparted := f_wparted,
    d_wparted := _,
    F_wparted := F_wparted,
    b_wparted := b_wparted,
    m_wparted := PySem.W.mg_of X G a_wparted,
    a_wdrawn_words := f_wdrawn_words,
    d_wdrawn_words := _,
    F_wdrawn_words := F_wdrawn_words,
    b_wdrawn_words := b_wdrawn_words,
    m_wdrawn_words := PySem.W.mg_of X G a_wdrawn_words,
    a_wall_words := f_wall_words,
    d_wall_words := _,
    F_wall_words := F_wall_words,
    b_wall_words := b_wall_words,
    m_wall_words := PySem.W.mg_of X G a_wall_words,
    a_ware_words := f_ware_words,
    d_ware_words := _,
    F_ware_words := F_ware_words,
    b_ware_words := b_ware_words,
    m_ware_words := PySem.W.mg_of X G a_ware_words,
    a_law := fa,
    d_law := _,
    F_law := F_law,
    b_law := b_law,
    m_law := hfa,
    C_Question := C_Question,
    cl_Question := ⟨pg_Question, hd_Question, po_Question, sa_Question⟩,
    mC_Question := PySem.W.mg_of X G aC_Question,
    M_Question := ⟨mk_Question, a_Question_init, i_Question_init, kc_Question⟩,
    n_Question_rows := n_Question_rows,
    n_Question_letters := n_Question_letters,
    n_Question_table := n_Question_table,
    n_Question_kept := n_Question_kept,
    C_Split := C_Split,
    cl_Split := ⟨pg_Split, hd_Split, po_Split, sa_Split⟩,
    mC_Split := PySem.W.mg_of X G aC_Split,
    M_Split := ⟨mk_Split, a_Split_init, i_Split_init, kc_Split⟩,
    n_Split_question := n_Split_question,
    n_Split_lot := n_Split_lot,
    n_Split_others := n_Split_others,
    n_Split_lot_columns := n_Split_lot_columns,
    n_Split_other_columns := n_Split_other_columns,
    n_Split_lot_gone := n_Split_lot_gone,
    n_Split_other_gone := n_Split_other_gone,
    n_Split_lot_open := n_Split_lot_open,
    n_Split_other_open := n_Split_other_open,
    n_Split_lead := n_Split_lead,
    n_Split_flags := n_Split_flags,
    n_Split_unlike := n_Split_unlike,
    n_Split_partable := n_Split_partable,
    k_GONE := PySem.W.mg_of X G kk_GONE,
    k_LEAST_ROWS := PySem.W.mg_of X G kk_LEAST_ROWS,
    k_LETTERS := PySem.W.mg_of X G kk_LETTERS,
    k_MOST_LETTERS := PySem.W.mg_of X G kk_MOST_LETTERS,
    k_MOST_ROWS := PySem.W.mg_of X G kk_MOST_ROWS,
    k_MOST_STANDINGS := PySem.W.mg_of X G kk_MOST_STANDINGS,
    b_abs := PySem.W.mg_none_of X G z_abs,
    b_all := PySem.W.mg_none_of X G z_all,
    b_any := PySem.W.mg_none_of X G z_any,
    b_bool := PySem.W.mg_none_of X G z_bool,
    b_dict := PySem.W.mg_none_of X G z_dict,
    b_enumerate := PySem.W.mg_none_of X G z_enumerate,
    b_int := PySem.W.mg_none_of X G z_int,
    b_isinstance := PySem.W.mg_none_of X G z_isinstance,
    b_len := PySem.W.mg_none_of X G z_len,
    b_list := PySem.W.mg_none_of X G z_list,
    b_max := PySem.W.mg_none_of X G z_max,
    b_min := PySem.W.mg_none_of X G z_min,
    b_range := PySem.W.mg_none_of X G z_range,
    b_set := PySem.W.mg_none_of X G z_set,
    b_sorted := PySem.W.mg_none_of X G z_sorted,
    b_str := PySem.W.mg_none_of X G z_str,
    b_sum := PySem.W.mg_none_of X G z_sum,
    b_tuple := PySem.W.mg_none_of X G z_tuple,
    b_zip := PySem.W.mg_none_of X G z_zip }
  exact ⟨T.d_law, fun s v => .of_eq rfl, fun base _ _ => ok_law T⟩
end My
open PySem PySem.W PyProof.Rows
set_option maxRecDepth 100000 in
set_option maxHeartbeats 0 in
theorem PySem.Challenge.cw_rowwalkers_k76_whole_words_parted_holds : PySem.Challenge.rw_rowwalkers_k76_whole_words_parted.Holds := by
  w_on; o_law; k_head; (case hw => w_witness2)
  k_fill
  refine L2.walk_of (l := PySem.Challenge.rw_rowwalkers_k76_whole_words_parted) (n := 63) (k := 10) (x := "script") (CX := fun _ => L2.CX0) (sp := fun w => DL.LSp _ w DL.lawSp) rfl (by decide) rfl ⟨rfl, by decide, by decide⟩ (fun w h Y => PySem.W.kIn_of Y) ?F (fun w H a ns hl hO hS => DL.law_in hl hO hS) (fun _ _ _ _ _ h => h)
  case F =>
    intro w mg fa h KX G hmg
    refine' My.all_mk KX G hmg ?aC_Question ?aC_Split ?a_is_integer ?l_is_integer ?c_is_integer ?k_is_integer ?a_is_within ?l_is_within ?c_is_within ?k_is_within ?a_is_pair ?l_is_pair ?c_is_pair ?k_is_pair ?a_is_string_of ?l_is_string_of ?c_is_string_of ?k_is_string_of ?a_is_letters ?l_is_letters ?c_is_letters ?k_is_letters ?a_is_ascending ?l_is_ascending ?c_is_ascending ?k_is_ascending ?a_columns ?l_columns ?c_columns ?k_columns ?a_readings ?l_readings ?c_readings ?k_readings ?a_is_standing ?l_is_standing ?c_is_standing ?k_is_standing ?a_Question_init ?i_Question_init ?l_Question_init ?c_Question_init ?k_Question_init ?a_numbers_of ?l_numbers_of ?c_numbers_of ?k_numbers_of ?a_read ?l_read ?c_read ?k_read ?a_are_words ?l_are_words ?c_are_words ?k_are_words ?a_check_words ?l_check_words ?c_check_words ?k_check_words ?a_gone_in ?l_gone_in ?c_gone_in ?k_gone_in ?a_Split_open_columns ?i_Split_open_columns ?l_Split_open_columns ?c_Split_open_columns ?k_Split_open_columns ?a_Split_leads_of ?i_Split_leads_of ?l_Split_leads_of ?c_Split_leads_of ?k_Split_leads_of ?a_Split_after ?i_Split_after ?l_Split_after ?c_Split_after ?k_Split_after ?a_Split_meets ?i_Split_meets ?l_Split_meets ?c_Split_meets ?k_Split_meets ?a_Split_unlike_ones ?i_Split_unlike_ones ?l_Split_unlike_ones ?c_Split_unlike_ones ?k_Split_unlike_ones ?a_Split_goals_of ?i_Split_goals_of ?l_Split_goals_of ?c_Split_goals_of ?k_Split_goals_of ?a_Split_can_part ?i_Split_can_part ?l_Split_can_part ?c_Split_can_part ?k_Split_can_part ?a_Split_partable_pairs ?i_Split_partable_pairs ?l_Split_partable_pairs ?c_Split_partable_pairs ?k_Split_partable_pairs ?a_Split_init ?i_Split_init ?l_Split_init ?c_Split_init ?k_Split_init ?a_words_in ?l_words_in ?c_words_in ?k_words_in ?a_Split_numbers_of ?i_Split_numbers_of ?l_Split_numbers_of ?c_Split_numbers_of ?k_Split_numbers_of ?a_Split_other_words ?i_Split_other_words ?l_Split_other_words ?c_Split_other_words ?k_Split_other_words ?a_at_or_none ?l_at_or_none ?c_at_or_none ?k_at_or_none ?a_way_back ?l_way_back ?c_way_back ?k_way_back ?a_Split_parted ?i_Split_parted ?l_Split_parted ?c_Split_parted ?k_Split_parted ?a_split_of ?l_split_of ?c_split_of ?k_split_of ?a_check_lot ?l_check_lot ?c_check_lot ?k_check_lot ?a_parted ?l_parted ?c_parted ?k_parted ?a_wpool ?l_wpool ?c_wpool ?k_wpool ?a_wdraw ?l_wdraw ?c_wdraw ?k_wdraw ?a_wpick ?l_wpick ?c_wpick ?k_wpick ?a_wcolumns ?l_wcolumns ?c_wcolumns ?k_wcolumns ?a_wlead ?l_wlead ?c_wlead ?k_wlead ?a_wcolumn_at ?l_wcolumn_at ?c_wcolumn_at ?k_wcolumn_at ?a_wanswer ?l_wanswer ?c_wanswer ?k_wanswer ?a_wby_rows ?l_wby_rows ?c_wby_rows ?k_wby_rows ?a_wdrawn_table ?l_wdrawn_table ?c_wdrawn_table ?k_wdrawn_table ?a_wfirst_signs ?l_wfirst_signs ?c_wfirst_signs ?k_wfirst_signs ?a_wcompared ?l_wcompared ?c_wcompared ?k_wcompared ?a_wspec ?l_wspec ?c_wspec ?k_wspec ?a_wquestion ?l_wquestion ?c_wquestion ?k_wquestion ?a_wothers ?l_wothers ?c_wothers ?k_wothers ?a_wlot ?l_wlot ?c_wlot ?k_wlot ?a_wplaced ?l_wplaced ?c_wplaced ?k_wplaced ?a_wgoes ?l_wgoes ?c_wgoes ?k_wgoes ?a_wparted ?l_wparted ?c_wparted ?k_wparted ?a_wdrawn_words ?l_wdrawn_words ?c_wdrawn_words ?k_wdrawn_words ?a_wall_words ?l_wall_words ?c_wall_words ?k_wall_words ?a_ware_words ?l_ware_words ?c_ware_words ?k_ware_words ?a_law ?l_law ?c_law ?k_law ?pg_Question ?hd_Question ?po_Question ?sa_Question ?mk_Question ?kc_Question ?n_Question_rows ?n_Question_letters ?n_Question_table ?n_Question_kept ?pg_Split ?hd_Split ?po_Split ?sa_Split ?mk_Split ?kc_Split ?n_Split_question ?n_Split_lot ?n_Split_others ?n_Split_lot_columns ?n_Split_other_columns ?n_Split_lot_gone ?n_Split_other_gone ?n_Split_lot_open ?n_Split_other_open ?n_Split_lead ?n_Split_flags ?n_Split_unlike ?n_Split_partable ?kk_GONE ?kk_LEAST_ROWS ?kk_LETTERS ?kk_MOST_LETTERS ?kk_MOST_ROWS ?kk_MOST_STANDINGS ?z_abs ?z_all ?z_any ?z_bool ?z_dict ?z_enumerate ?z_int ?z_isinstance ?z_len ?z_list ?z_max ?z_min ?z_range ?z_set ?z_sorted ?z_str ?z_sum ?z_tuple ?z_zip
    (case aC_Question => k_is)
    (case aC_Split => k_is)
    (case a_is_integer => k_is)
    (case l_is_integer => k_is)
    (case c_is_integer => k_is)
    (case k_is_integer => k_is)
    (case a_is_within => k_is)
    (case l_is_within => k_is)
    (case c_is_within => k_is)
    (case k_is_within => k_is)
    (case a_is_pair => k_is)
    (case l_is_pair => k_is)
    (case c_is_pair => k_is)
    (case k_is_pair => k_is)
    (case a_is_string_of => k_is)
    (case l_is_string_of => k_is)
    (case c_is_string_of => k_is)
    (case k_is_string_of => k_is)
    (case a_is_letters => k_is)
    (case l_is_letters => k_is)
    (case c_is_letters => k_is)
    (case k_is_letters => k_is)
    (case a_is_ascending => k_is)
    (case l_is_ascending => k_is)
    (case c_is_ascending => k_is)
    (case k_is_ascending => k_is)
    (case a_columns => k_is)
    (case l_columns => k_is)
    (case c_columns => k_is)
    (case k_columns => k_is)
    (case a_readings => k_is)
    (case l_readings => k_is)
    (case c_readings => k_is)
    (case k_readings => k_is)
    (case a_is_standing => k_is)
    (case l_is_standing => k_is)
    (case c_is_standing => k_is)
    (case k_is_standing => k_is)
    (case a_Question_init => k_is)
    (case i_Question_init => k_is)
    (case l_Question_init => k_is)
    (case c_Question_init => k_is)
    (case k_Question_init => k_is)
    (case a_numbers_of => k_is)
    (case l_numbers_of => k_is)
    (case c_numbers_of => k_is)
    (case k_numbers_of => k_is)
    (case a_read => k_is)
    (case l_read => k_is)
    (case c_read => k_is)
    (case k_read => k_is)
    (case a_are_words => k_is)
    (case l_are_words => k_is)
    (case c_are_words => k_is)
    (case k_are_words => k_is)
    (case a_check_words => k_is)
    (case l_check_words => k_is)
    (case c_check_words => k_is)
    (case k_check_words => k_is)
    (case a_gone_in => k_is)
    (case l_gone_in => k_is)
    (case c_gone_in => k_is)
    (case k_gone_in => k_is)
    (case a_Split_open_columns => k_is)
    (case i_Split_open_columns => k_is)
    (case l_Split_open_columns => k_is)
    (case c_Split_open_columns => k_is)
    (case k_Split_open_columns => k_is)
    (case a_Split_leads_of => k_is)
    (case i_Split_leads_of => k_is)
    (case l_Split_leads_of => k_is)
    (case c_Split_leads_of => k_is)
    (case k_Split_leads_of => k_is)
    (case a_Split_after => k_is)
    (case i_Split_after => k_is)
    (case l_Split_after => k_is)
    (case c_Split_after => k_is)
    (case k_Split_after => k_is)
    (case a_Split_meets => k_is)
    (case i_Split_meets => k_is)
    (case l_Split_meets => k_is)
    (case c_Split_meets => k_is)
    (case k_Split_meets => k_is)
    (case a_Split_unlike_ones => k_is)
    (case i_Split_unlike_ones => k_is)
    (case l_Split_unlike_ones => k_is)
    (case c_Split_unlike_ones => k_is)
    (case k_Split_unlike_ones => k_is)
    (case a_Split_goals_of => k_is)
    (case i_Split_goals_of => k_is)
    (case l_Split_goals_of => k_is)
    (case c_Split_goals_of => k_is)
    (case k_Split_goals_of => k_is)
    (case a_Split_can_part => k_is)
    (case i_Split_can_part => k_is)
    (case l_Split_can_part => k_is)
    (case c_Split_can_part => k_is)
    (case k_Split_can_part => k_is)
    (case a_Split_partable_pairs => k_is)
    (case i_Split_partable_pairs => k_is)
    (case l_Split_partable_pairs => k_is)
    (case c_Split_partable_pairs => k_is)
    (case k_Split_partable_pairs => k_is)
    (case a_Split_init => k_is)
    (case i_Split_init => k_is)
    (case l_Split_init => k_is)
    (case c_Split_init => k_is)
    (case k_Split_init => k_is)
    (case a_words_in => k_is)
    (case l_words_in => k_is)
    (case c_words_in => k_is)
    (case k_words_in => k_is)
    (case a_Split_numbers_of => k_is)
    (case i_Split_numbers_of => k_is)
    (case l_Split_numbers_of => k_is)
    (case c_Split_numbers_of => k_is)
    (case k_Split_numbers_of => k_is)
    (case a_Split_other_words => k_is)
    (case i_Split_other_words => k_is)
    (case l_Split_other_words => k_is)
    (case c_Split_other_words => k_is)
    (case k_Split_other_words => k_is)
    (case a_at_or_none => k_is)
    (case l_at_or_none => k_is)
    (case c_at_or_none => k_is)
    (case k_at_or_none => k_is)
    (case a_way_back => k_is)
    (case l_way_back => k_is)
    (case c_way_back => k_is)
    (case k_way_back => k_is)
    (case a_Split_parted => k_is)
    (case i_Split_parted => k_is)
    (case l_Split_parted => k_is)
    (case c_Split_parted => k_is)
    (case k_Split_parted => k_is)
    (case a_split_of => k_is)
    (case l_split_of => k_is)
    (case c_split_of => k_is)
    (case k_split_of => k_is)
    (case a_check_lot => k_is)
    (case l_check_lot => k_is)
    (case c_check_lot => k_is)
    (case k_check_lot => k_is)
    (case a_parted => k_is)
    (case l_parted => k_is)
    (case c_parted => k_is)
    (case k_parted => k_is)
    (case a_wpool => k_is)
    (case l_wpool => k_is)
    (case c_wpool => k_is)
    (case k_wpool => k_is)
    (case a_wdraw => k_is)
    (case l_wdraw => k_is)
    (case c_wdraw => k_is)
    (case k_wdraw => k_is)
    (case a_wpick => k_is)
    (case l_wpick => k_is)
    (case c_wpick => k_is)
    (case k_wpick => k_is)
    (case a_wcolumns => k_is)
    (case l_wcolumns => k_is)
    (case c_wcolumns => k_is)
    (case k_wcolumns => k_is)
    (case a_wlead => k_is)
    (case l_wlead => k_is)
    (case c_wlead => k_is)
    (case k_wlead => k_is)
    (case a_wcolumn_at => k_is)
    (case l_wcolumn_at => k_is)
    (case c_wcolumn_at => k_is)
    (case k_wcolumn_at => k_is)
    (case a_wanswer => k_is)
    (case l_wanswer => k_is)
    (case c_wanswer => k_is)
    (case k_wanswer => k_is)
    (case a_wby_rows => k_is)
    (case l_wby_rows => k_is)
    (case c_wby_rows => k_is)
    (case k_wby_rows => k_is)
    (case a_wdrawn_table => k_is)
    (case l_wdrawn_table => k_is)
    (case c_wdrawn_table => k_is)
    (case k_wdrawn_table => k_is)
    (case a_wfirst_signs => k_is)
    (case l_wfirst_signs => k_is)
    (case c_wfirst_signs => k_is)
    (case k_wfirst_signs => k_is)
    (case a_wcompared => k_is)
    (case l_wcompared => k_is)
    (case c_wcompared => k_is)
    (case k_wcompared => k_is)
    (case a_wspec => k_is)
    (case l_wspec => k_is)
    (case c_wspec => k_is)
    (case k_wspec => k_is)
    (case a_wquestion => k_is)
    (case l_wquestion => k_is)
    (case c_wquestion => k_is)
    (case k_wquestion => k_is)
    (case a_wothers => k_is)
    (case l_wothers => k_is)
    (case c_wothers => k_is)
    (case k_wothers => k_is)
    (case a_wlot => k_is)
    (case l_wlot => k_is)
    (case c_wlot => k_is)
    (case k_wlot => k_is)
    (case a_wplaced => k_is)
    (case l_wplaced => k_is)
    (case c_wplaced => k_is)
    (case k_wplaced => k_is)
    (case a_wgoes => k_is)
    (case l_wgoes => k_is)
    (case c_wgoes => k_is)
    (case k_wgoes => k_is)
    (case a_wparted => k_is)
    (case l_wparted => k_is)
    (case c_wparted => k_is)
    (case k_wparted => k_is)
    (case a_wdrawn_words => k_is)
    (case l_wdrawn_words => k_is)
    (case c_wdrawn_words => k_is)
    (case k_wdrawn_words => k_is)
    (case a_wall_words => k_is)
    (case l_wall_words => k_is)
    (case c_wall_words => k_is)
    (case k_wall_words => k_is)
    (case a_ware_words => k_is)
    (case l_ware_words => k_is)
    (case c_ware_words => k_is)
    (case k_ware_words => k_is)
    (case a_law => k_is)
    (case l_law => k_is)
    (case c_law => k_is)
    (case k_law => k_is)
    (case pg_Question => k_is)
    (case hd_Question => k_is)
    (case po_Question => k_is)
    (case sa_Question => k_is)
    (case mk_Question => k_is)
    (case kc_Question => k_is)
    (case n_Question_rows => k_is)
    (case n_Question_letters => k_is)
    (case n_Question_table => k_is)
    (case n_Question_kept => k_is)
    (case pg_Split => k_is)
    (case hd_Split => k_is)
    (case po_Split => k_is)
    (case sa_Split => k_is)
    (case mk_Split => k_is)
    (case kc_Split => k_is)
    (case n_Split_question => k_is)
    (case n_Split_lot => k_is)
    (case n_Split_others => k_is)
    (case n_Split_lot_columns => k_is)
    (case n_Split_other_columns => k_is)
    (case n_Split_lot_gone => k_is)
    (case n_Split_other_gone => k_is)
    (case n_Split_lot_open => k_is)
    (case n_Split_other_open => k_is)
    (case n_Split_lead => k_is)
    (case n_Split_flags => k_is)
    (case n_Split_unlike => k_is)
    (case n_Split_partable => k_is)
    (case kk_GONE => k_is)
    (case kk_LEAST_ROWS => k_is)
    (case kk_LETTERS => k_is)
    (case kk_MOST_LETTERS => k_is)
    (case kk_MOST_ROWS => k_is)
    (case kk_MOST_STANDINGS => k_is)
    (case z_abs => k_is)
    (case z_all => k_is)
    (case z_any => k_is)
    (case z_bool => k_is)
    (case z_dict => k_is)
    (case z_enumerate => k_is)
    (case z_int => k_is)
    (case z_isinstance => k_is)
    (case z_len => k_is)
    (case z_list => k_is)
    (case z_max => k_is)
    (case z_min => k_is)
    (case z_range => k_is)
    (case z_set => k_is)
    (case z_sorted => k_is)
    (case z_str => k_is)
    (case z_sum => k_is)
    (case z_tuple => k_is)
    (case z_zip => k_is)
